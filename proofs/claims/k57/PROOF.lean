import PyProof.Rows.All
import Wide.All
import OpenK.AllK
import Wide.FinOn
import HandS.ForMost
import HandS.Deep
import HandS.More
import HandS.TupAny
import HandS.Wide
import HandS.Style
import HandS.Steps
import HandS.TupLen
import HandS.SortInts
import HandS.Iter
import HandS.IsInst
import KE.DataCmp
import KE.SortData
import PyProof.StrBlock2
import HandS.Set
import HandS.SetTxt0
import HandS.Dict
import HandS.Text
import KE.KDictList
import HandS.DictComp
import HandS.Replace
import HandS.RaiseMore
import KE.KDictDisplayH
import PySem.Challenge.RW_growth_k57_whole_pieces_of_automatic_row
set_option Elab.async false
set_option linter.all false
set_option autoImplicit false
set_option maxRecDepth 100000
set_option maxHeartbeats 4000000
/-! A layer over the hand layer: readings over plain data, no heap. -/
namespace PW
open PySem PySem.Spec PyProof.Rows L2

/-! ### plain data -/
inductive D where
  | non | bl (b : Bool) | int (i : Int) | str (s : List Nat) | tup (l : List D) | lst (l : List D)
  /-- a dict: of ints and texts (false), of tuples of such (true) -/
  | dct (t : Bool) (l : List (D × D))
  /-- the script -/
  | scr (ns : List Int)

abbrev mkS (l : List Nat) : Str := ⟨l.toArray⟩
theorem mkS_inj {a b : List Nat} (h : mkS a = mkS b) : a = b := by
  have := congrArg (fun s : Str => s.cps.toList) h
  simpa using this
theorem mkS_of (x : Str) : mkS x.cps.toList = x := by cases x; simp [mkS]
def kD : Key → D
  | .inl i => .int i
  | .inr x => .str x.cps.toList

mutual
/-- as the library's data -/
def D.py : D → PyData
  | .non => .none
  | .bl b => .bool b
  | .int i => .int i
  | .str s => .str (mkS s)
  | .tup l => .tuple (D.pys l)
  | .lst l => .list (D.pys l)
  | .dct _ _ => .dict []
  | .scr _ => .dict []
def D.pys : List D → List PyData
  | [] => []
  | d :: l => D.py d :: D.pys l
end
theorem D.pys_map : ∀ l : List D, D.pys l = l.map D.py
  | [] => by simp [D.pys]
  | d :: l => by simp [D.pys, D.pys_map l]

/-! ### how data stands in the heap -/
mutual
inductive Rep (K : PySem.W.Frag) (F : Hp) : V → D → Prop
  | non : Rep K F .non .non
  | bl (b : Bool) : Rep K F (.bl b) (.bl b)
  | int (i : Int) : Rep K F (.int i) (.int i)
  | str (l : List Nat) : Rep K F (.str (mkS l)) (.str l)
  | tup {a : Addr} {vs : List V} {ds : List D} : F a = some (.tup vs) → RepL K F vs ds → Rep K F (.ref a) (.tup ds)
  | lst {a : Addr} {vs : List V} {ds : List D} : F a = some (.lst vs) → RepL K F vs ds → Rep K F (.ref a) (.lst ds)
  | dK {a : Addr} {kv : List (Key × V)} {kd : List (D × D)} : Rd F a (.dK kv) → RepK K F kv kd → Rep K F (.ref a) (.dct false kd)
  | dT {a : Addr} {kv : List (List Key × V)} {kd : List (D × D)} : Rd F a (.dT kv) → RepT K F kv kd → Rep K F (.ref a) (.dct true kd)
  | scr {a : Addr} {ns : List Int} : SqL K F a (ns.map V.int) → Rep K F (.ref a) (.scr ns)
inductive RepL (K : PySem.W.Frag) (F : Hp) : List V → List D → Prop
  | nil : RepL K F [] []
  | cons {v : V} {vs : List V} {d : D} {ds : List D} : Rep K F v d → RepL K F vs ds → RepL K F (v :: vs) (d :: ds)
inductive RepK (K : PySem.W.Frag) (F : Hp) : List (Key × V) → List (D × D) → Prop
  | nil : RepK K F [] []
  | cons {k : Key} {v : V} {kv : List (Key × V)} {d : D} {kd : List (D × D)} : Rep K F v d → RepK K F kv kd → RepK K F ((k, v) :: kv) ((kD k, d) :: kd)
inductive RepT (K : PySem.W.Frag) (F : Hp) : List (List Key × V) → List (D × D) → Prop
  | nil : RepT K F [] []
  | cons {k : List Key} {v : V} {kv : List (List Key × V)} {d : D} {kd : List (D × D)} : Rep K F v d → RepT K F kv kd → RepT K F ((k, v) :: kv) ((.tup (k.map kD), d) :: kd)
end

def isD : HO → Bool
  | .dK _ => true | .dT _ => true | _ => false
/-- more is known; a dict may have been locked -/
def Sub (F H : Hp) : Prop := ∀ a u, F a = some u → H a = some u ∨ (isD u = true ∧ ∃ o, H a = some (.frz o u))
theorem Sub.refl (F : Hp) : Sub F F := fun _ _ h => .inl h
theorem Sub.trans {F G H : Hp} (a : Sub F G) (b : Sub G H) : Sub F H := fun p u e => by
  rcases a p u e with h | ⟨m, o, h⟩
  · exact b p u h
  · rcases b p _ h with h' | ⟨m', _⟩
    · exact .inr ⟨m, o, h'⟩
    · cases m'
theorem Sub.exact {F H : Hp} (s : Sub F H) {a : Addr} {u : HO} (h : F a = some u) (m : isD u = false) : H a = some u := by
  rcases s a u h with h | ⟨m', _⟩
  · exact h
  · rw [m] at m'; cases m'
theorem Sub.rd {F H : Hp} (s : Sub F H) {a : Addr} {u : HO} (h : Rd F a u) : Rd H a u := by
  rcases h with h | ⟨o, h⟩
  · rcases s a u h with h | ⟨_, o, h⟩
    · exact .inl h
    · exact .inr ⟨o, h⟩
  · exact .inr ⟨o, s.exact h rfl⟩
theorem Sub.sql {K : PySem.W.Frag} {F H : Hp} (s : Sub F H) {a : Addr} {xs : List V} (h : SqL K F a xs) : SqL K H a xs := by
  rcases h with h | h
  · exact .inl (s.rd h)
  · exact .inr h
theorem Sub.tup {F H : Hp} (s : Sub F H) {a : Addr} {xs : List V} (h : F a = some (.tup xs)) : H a = some (.tup xs) := s.exact h rfl
theorem Sub.lst {F H : Hp} (s : Sub F H) {a : Addr} {xs : List V} (h : F a = some (.lst xs)) : H a = some (.lst xs) := s.exact h rfl
theorem Sub.gone {F H : Hp} (s : Sub F H) {a : Addr} (h : H a = none) : F a = none := by
  cases e : F a with
  | none => rfl
  | some u =>
    rcases s a u e with h' | ⟨_, o, h'⟩
    · rw [h] at h'; cases h'
    · rw [h] at h'; cases h'
theorem Sub.upd_new {F : Hp} {p : Addr} (o : HO) (h : F p = none) : Sub F (upd F p o) := fun a u e => .inl (by rw [upd_ne (ne_of_none e h)]; exact e)
theorem Sub.upd_out {F H : Hp} (s : Sub F H) {p : Addr} (o : HO) (h : F p = none) : Sub F (upd H p o) := fun a u e => by
  rw [upd_ne (ne_of_none e h)]
  exact s a u e
theorem Sub.upd_both {F H : Hp} (s : Sub F H) {p : Addr} (o : HO) : Sub (upd F p o) (upd H p o) := fun a u e => by
  by_cases hp : a = p
  · subst hp
    rw [upd_same] at e ⊢
    exact .inl e
  · rw [upd_ne hp] at e ⊢
    exact s a u e
/-- what stands already is known -/
theorem Sub.upd_in {F H : Hp} (s : Sub F H) {p : Addr} {o : HO} (h : H p = some o) : Sub (upd F p o) H := fun a u e => by
  by_cases hp : a = p
  · subst hp
    rw [upd_same] at e
    cases e
    exact .inl h
  · rw [upd_ne hp] at e
    exact s a u e

mutual
theorem Rep.mono {K : PySem.W.Frag} {F H : Hp} (s : Sub F H) : ∀ {v : V} {d : D}, Rep K F v d → Rep K H v d
  | _, _, .non => .non
  | _, _, .bl b => .bl b
  | _, _, .int i => .int i
  | _, _, .str l => .str l
  | _, _, .tup h r => .tup (s.tup h) (RepL.mono s r)
  | _, _, .lst h r => .lst (s.lst h) (RepL.mono s r)
  | _, _, .dK h r => .dK (s.rd h) (RepK.mono s r)
  | _, _, .dT h r => .dT (s.rd h) (RepT.mono s r)
  | _, _, .scr h => .scr (s.sql h)
theorem RepL.mono {K : PySem.W.Frag} {F H : Hp} (s : Sub F H) : ∀ {vs : List V} {ds : List D}, RepL K F vs ds → RepL K H vs ds
  | _, _, .nil => .nil
  | _, _, .cons h r => .cons (Rep.mono s h) (RepL.mono s r)
theorem RepK.mono {K : PySem.W.Frag} {F H : Hp} (s : Sub F H) : ∀ {kv : List (Key × V)} {kd : List (D × D)}, RepK K F kv kd → RepK K H kv kd
  | _, _, .nil => .nil
  | _, _, .cons h r => .cons (Rep.mono s h) (RepK.mono s r)
theorem RepT.mono {K : PySem.W.Frag} {F H : Hp} (s : Sub F H) : ∀ {kv : List (List Key × V)} {kd : List (D × D)}, RepT K F kv kd → RepT K H kv kd
  | _, _, .nil => .nil
  | _, _, .cons h r => .cons (Rep.mono s h) (RepT.mono s r)
end

section
variable {K : PySem.W.Frag} {F H : Hp}
theorem RepL.length : ∀ {vs : List V} {ds : List D}, RepL K F vs ds → vs.length = ds.length
  | _, _, .nil => rfl
  | _, _, .cons _ r => by simp [RepL.length r]
theorem RepL.get : ∀ {vs : List V} {ds : List D} {i : Nat} {d : D}, RepL K F vs ds → ds[i]? = some d → ∃ v, vs[i]? = some v ∧ Rep K F v d
  | _, _, _, _, .nil, e => by simp at e
  | _, _, 0, _, .cons h _, e => by simp at e; subst e; exact ⟨_, rfl, h⟩
  | _, _, i + 1, d, .cons _ r, e => by
    obtain ⟨v, h1, h2⟩ := RepL.get (i := i) (d := d) r (by simpa using e)
    exact ⟨v, by simpa using h1, h2⟩
theorem RepL.getV : ∀ {vs : List V} {ds : List D} {i : Nat} {v : V}, RepL K F vs ds → vs[i]? = some v → ∃ d, ds[i]? = some d ∧ Rep K F v d
  | _, _, _, _, .nil, e => by simp at e
  | _, _, 0, _, .cons h _, e => by simp at e; subst e; exact ⟨_, rfl, h⟩
  | _, _, i + 1, d, .cons _ r, e => by
    obtain ⟨v, h1, h2⟩ := RepL.getV (i := i) (v := d) r (by simpa using e)
    exact ⟨v, by simpa using h1, h2⟩
theorem RepL.append : ∀ {vs ws : List V} {ds es : List D}, RepL K F vs ds → RepL K F ws es → RepL K F (vs ++ ws) (ds ++ es)
  | _, _, _, _, .nil, s => s
  | _, _, _, _, .cons h r, s => .cons h (RepL.append r s)
theorem RepL.take : ∀ {vs : List V} {ds : List D} (n : Nat), RepL K F vs ds → RepL K F (vs.take n) (ds.take n)
  | _, _, 0, _ => .nil
  | _, _, _ + 1, .nil => .nil
  | _, _, n + 1, .cons h r => .cons h (RepL.take n r)
theorem RepL.drop : ∀ {vs : List V} {ds : List D} (n : Nat), RepL K F vs ds → RepL K F (vs.drop n) (ds.drop n)
  | _, _, 0, r => r
  | _, _, _ + 1, .nil => .nil
  | _, _, n + 1, .cons _ r => RepL.drop n r
theorem RepL.set {v : V} {d : D} (h : Rep K F v d) : ∀ {vs : List V} {ds : List D} (n : Nat), RepL K F vs ds → RepL K F (vs.set n v) (ds.set n d)
  | _, _, _, .nil => .nil
  | _, _, 0, .cons _ r => .cons h r
  | _, _, n + 1, .cons h' r => .cons h' (RepL.set h n r)
theorem RepL.reverse {vs : List V} {ds : List D} (h : RepL K F vs ds) : RepL K F vs.reverse ds.reverse := by
  induction vs generalizing ds with
  | nil => cases h; exact .nil
  | cons v vs ih =>
    cases h with
    | cons h r =>
      rw [List.reverse_cons, List.reverse_cons]
      exact (ih r).append (.cons h .nil)
theorem RepL.dropLast : ∀ {vs : List V} {ds : List D}, RepL K F vs ds → RepL K F vs.dropLast ds.dropLast
  | _, _, .nil => .nil
  | _, _, .cons h .nil => .nil
  | _, _, .cons h (.cons h2 r) => .cons h (RepL.dropLast (.cons h2 r))
theorem RepL.eraseIdx : ∀ {vs : List V} {ds : List D} (n : Nat), RepL K F vs ds → RepL K F (vs.eraseIdx n) (ds.eraseIdx n)
  | _, _, _, .nil => .nil
  | _, _, 0, .cons _ r => r
  | _, _, n + 1, .cons h' r => .cons h' (RepL.eraseIdx n r)
theorem RepL.rep {vs : List V} {ds : List D} (h : RepL K F vs ds) : ∀ k : Nat, RepL K F (List.replicate k vs).flatten (List.replicate k ds).flatten
  | 0 => .nil
  | k + 1 => by
    rw [List.replicate_succ, List.replicate_succ, List.flatten_cons, List.flatten_cons]
    exact h.append (h.rep k)
/-- a list of one kind -/
theorem RepL.ints : ∀ {vs : List V} {ns : List Int}, RepL K F vs (ns.map D.int) → vs = ns.map V.int
  | [], [], _ => rfl
  | [], _ :: _, h => by cases h
  | _ :: _, [], h => by cases h
  | _ :: _, _ :: _, h => by
    cases h with
    | cons h r => cases h; rw [List.map_cons, RepL.ints r]
theorem RepL.bools : ∀ {vs : List V} {ns : List Bool}, RepL K F vs (ns.map D.bl) → vs = ns.map V.bl
  | [], [], _ => rfl
  | [], _ :: _, h => by cases h
  | _ :: _, [], h => by cases h
  | _ :: _, _ :: _, h => by
    cases h with
    | cons h r => cases h; rw [List.map_cons, RepL.bools r]
theorem RepL.strs : ∀ {vs : List V} {ns : List (List Nat)}, RepL K F vs (ns.map D.str) → vs = (ns.map mkS).map V.str
  | [], [], _ => rfl
  | [], _ :: _, h => by cases h
  | _ :: _, [], h => by cases h
  | _ :: _, _ :: _, h => by
    cases h with
    | cons h r => cases h; simp only [List.map_cons]; rw [RepL.strs r]
theorem RepL.ofInts : ∀ (ns : List Int), RepL K F (ns.map V.int) (ns.map D.int)
  | [] => .nil
  | n :: ns => .cons (.int n) (RepL.ofInts ns)
theorem RepL.ofStrs : ∀ (ns : List (List Nat)), RepL K F ((ns.map mkS).map V.str) (ns.map D.str)
  | [] => .nil
  | n :: ns => .cons (.str n) (RepL.ofStrs ns)
end

/-! ### equality of data by the library -/
mutual
theorem Rep.dp {K : PySem.W.Frag} {H : Hp} : ∀ {d : D} {v : V}, PyData.canLay0 d.py = true → Rep K H v d → Dp K H v d.py
  | _, _, _, .non => by simp only [D.py]; exact .non
  | _, _, _, .bl b => by simp only [D.py]; exact .bl b
  | _, _, _, .int b => by simp only [D.py]; exact .int b
  | _, _, _, .str b => by simp only [D.py]; exact .str _
  | .tup ds, _, h, .tup e r => by
    simp only [D.py] at h ⊢
    exact .tup (SqT.of e) (RepL.dp (by simpa [PyData.canLay0] using h) r)
  | .lst ds, _, h, .lst e r => by
    simp only [D.py] at h ⊢
    exact .lst (SqL.of e) (RepL.dp (by simpa [PyData.canLay0] using h) r)
  | _, _, h, .dK _ _ => by simp [D.py, PyData.canLay0] at h
  | _, _, h, .dT _ _ => by simp [D.py, PyData.canLay0] at h
  | _, _, h, .scr _ => by simp [D.py, PyData.canLay0] at h
theorem RepL.dp {K : PySem.W.Frag} {H : Hp} : ∀ {ds : List D} {vs : List V}, PyData.canLayAll0 (D.pys ds) = true → RepL K H vs ds → DpAll K H vs (D.pys ds)
  | _, _, _, .nil => by simp only [D.pys]; exact .nil
  | d :: ds, _, h, .cons e r => by
    simp only [D.pys, PyData.canLayAll0, Bool.and_eq_true] at h ⊢
    exact .cons (Rep.dp h.1 e) (RepL.dp h.2 r)
end
end PW

set_option Elab.async false
set_option linter.all false
set_option autoImplicit false
set_option maxRecDepth 100000
set_option maxHeartbeats 4000000
namespace PW
open PySem PySem.Spec PyProof.Rows L2

/-! ### the state as plain data: what each slot holds -/
/-- data; a list or dict of our own that may still change; the same, handed in by the caller at an address -/
inductive B where
  | dat (d : D) | own (d : D) | par (a : Addr) (d : D)
abbrev En := List (Option B)
def B.d : B → D
  | .dat d => d | .own d => d | .par _ d => d
def B.put : B → D → B
  | .dat _, d => .dat d | .own _, d => .own d | .par a _, d => .par a d
def B.mu : B → Bool
  | .dat _ => false | _ => true

def Cell (K : PySem.W.Frag) (F H : Hp) (a : Addr) : D → Prop
  | .lst ds => ∃ vs, H a = some (.lst vs) ∧ RepL K F vs ds
  | .dct false kd => ∃ kv, H a = some (.dK kv) ∧ RepK K F kv kd
  | .dct true kd => ∃ kv, H a = some (.dT kv) ∧ RepT K F kv kd
  | _ => False
theorem Cell.mono {K : PySem.W.Frag} {F F' H H' : Hp} {a : Addr} {d : D} (s : Sub F F') (e : H' a = H a) (c : Cell K F H a d) : Cell K F' H' a d := by
  cases d with
  | lst ds => obtain ⟨vs, h, r⟩ := c; exact ⟨vs, e.trans h, r.mono s⟩
  | dct t kd =>
    cases t <;> (obtain ⟨kv, h, r⟩ := c; exact ⟨kv, e.trans h, r.mono s⟩)
  | _ => exact c.elim
def isTup : HO → Bool
  | .tup _ => true | _ => false
theorem Cell.there {K : PySem.W.Frag} {F H : Hp} {a : Addr} {d : D} (c : Cell K F H a d) : ∃ u, H a = some u ∧ isTup u = false := by
  cases d with
  | lst ds => obtain ⟨vs, h, r⟩ := c; exact ⟨_, h, rfl⟩
  | dct t kd => cases t <;> (obtain ⟨kv, h, r⟩ := c; exact ⟨_, h, rfl⟩)
  | _ => exact c.elim
/-- a cell, known from now on -/
theorem Cell.rep {K : PySem.W.Frag} {F H : Hp} {a : Addr} {d : D} {u : HO} (c : Cell K F H a d) (e : H a = some u) (n : F a = none) : Rep K (upd F a u) (.ref a) d := by
  have s : Sub F (upd F a u) := Sub.upd_new _ n
  cases d with
  | lst ds =>
    obtain ⟨vs, h, r⟩ := c
    rw [e] at h; cases h
    exact .lst upd_same (r.mono s)
  | dct t kd =>
    cases t
    · obtain ⟨kv, h, r⟩ := c
      rw [e] at h; cases h
      exact .dK (.inl upd_same) (r.mono s)
    · obtain ⟨kv, h, r⟩ := c
      rw [e] at h; cases h
      exact .dT (.inl upd_same) (r.mono s)
  | _ => exact c.elim

def ownA : V → B → Option Addr
  | .ref a, .own _ => some a
  | .ref a, .par _ _ => some a
  | _, _ => none
def RB (K : PySem.W.Frag) (O F H : Hp) (v : V) : B → Prop
  | .dat d => Rep K F v d
  | .own d => ∃ a, v = .ref a ∧ F a = none ∧ O a = none ∧ Cell K F H a d
  | .par a d => v = .ref a ∧ F a = none ∧ O a = none ∧ Cell K F H a d
theorem RB.own {K : PySem.W.Frag} {O F H : Hp} {v : V} {b : B} {a : Addr} (r : RB K O F H v b) (h : ownA v b = some a) : v = .ref a ∧ F a = none ∧ O a = none ∧ Cell K F H a b.d := by
  cases b with
  | dat d => cases v <;> cases h
  | own d =>
    obtain ⟨a', e, r⟩ := r
    subst e
    cases h
    exact ⟨rfl, r⟩
  | par a' d =>
    obtain ⟨e, r⟩ := r
    subst e
    cases h
    exact ⟨rfl, r⟩
theorem RB.mono {K : PySem.W.Frag} {O F F' H H' : Hp} {v : V} {b : B} (s : Sub F F') (k : ∀ a, ownA v b = some a → F' a = none ∧ H' a = H a) (r : RB K O F H v b) : RB K O F' H' v b := by
  cases b with
  | dat d => exact Rep.mono s r
  | own d =>
    obtain ⟨a, e, n, o, c⟩ := r
    subst e
    obtain ⟨n', h'⟩ := k a rfl
    exact ⟨a, rfl, n', o, c.mono s h'⟩
  | par a d =>
    obtain ⟨e, n, o, c⟩ := r
    subst e
    obtain ⟨n', h'⟩ := k a rfl
    exact ⟨rfl, n', o, c.mono s h'⟩

def Owned (σ : L2.St) (E : En) (a : Addr) : Prop := ∃ (i : Nat) (b : B) (v : V), E[i]? = some (some b) ∧ σ[i]? = some (some v) ∧ ownA v b = some a

/-- σ, H bear E: F what is known for good, O what stands apart (the caller's), G what was known at the start -/
structure R (K : PySem.W.Frag) (O G F : Hp) (σ : L2.St) (H : Hp) (E : En) : Prop where
  g : Sub G F
  f : Sub F H
  o : ∀ a u, O a = some u → H a = some u ∧ (F a = none ∨ isTup u = true)
  len : σ.length = E.length
  at_ : ∀ (i : Nat) (b : B), E[i]? = some (some b) → ∃ v : V, σ[i]? = some (some v) ∧ RB K O F H v b
  nd : ∀ (i j : Nat) (a : Addr) (bi bj : B) (v w : V), E[i]? = some (some bi) → E[j]? = some (some bj) → σ[i]? = some (some v) → σ[j]? = some (some w) → ownA v bi = some a → ownA w bj = some a → i = j

/-- a result: none of E's -/
def RR (K : PySem.W.Frag) (O F : Hp) (σ : L2.St) (H : Hp) (E : En) (v : V) (b : B) : Prop := RB K O F H v b ∧ ∀ a, ownA v b = some a → ¬ Owned σ E a

section
variable {K : PySem.W.Frag} {O G F F' : Hp} {σ : L2.St} {H H' : Hp} {E : En} {v : V} {b : B} {d : D} {a p : Addr} {u : HO}

theorem R.owned (r : R K O G F σ H E) (h : Owned σ E a) : F a = none ∧ O a = none ∧ ∃ u, H a = some u ∧ isTup u = false := by
  obtain ⟨i, b, v, h1, h2, h3⟩ := h
  obtain ⟨v', e, q⟩ := r.at_ i b h1
  rw [h2] at e; cases e
  obtain ⟨_, n, o, c⟩ := q.own h3
  exact ⟨n, o, c.there⟩
theorem R.step (r : R K O G F σ H E) (s : Sub F F') (f : Sub F' H') (o : ∀ a u, O a = some u → H' a = some u ∧ (F' a = none ∨ isTup u = true)) (k : ∀ a, Owned σ E a → F' a = none ∧ H' a = H a) : R K O G F' σ H' E :=
  ⟨r.g.trans s, f, o, r.len, fun i b e => by
    obtain ⟨v, e2, q⟩ := r.at_ i b e
    exact ⟨v, e2, q.mono s fun a h => k a ⟨i, b, v, e, e2, h⟩⟩, r.nd⟩
theorem R.notOwned (r : R K O G F σ H E) (h : H p = none) : ¬ Owned σ E p := fun w => by
  obtain ⟨_, _, u, e, _⟩ := r.owned w
  rw [h] at e; cases e
theorem R.oNone (r : R K O G F σ H E) (h : H p = none) : O p = none := by
  cases e : O p with
  | none => rfl
  | some u => rw [(r.o p u e).1] at h; cases h
/-- a new object -/
theorem R.alloc (r : R K O G F σ H E) (h : H p = none) : R K O G F σ (upd H p u) E :=
  r.step (Sub.refl F) (r.f.upd_out _ (r.f.gone h)) (fun a w e => by rw [upd_ne (ne_of_none (r.o a w e).1 h)]; exact r.o a w e) fun a w => by
    obtain ⟨n, _, x, e, _⟩ := r.owned w
    exact ⟨n, upd_ne (ne_of_none e h)⟩
/-- what is nobody's becomes known -/
theorem R.freeze (r : R K O G F σ H E) (h : H a = some u) (n : F a = none) (o : O a = none) (w : ¬ Owned σ E a) : R K O G (upd F a u) σ H E :=
  r.step (Sub.upd_new _ n) (r.f.upd_in h) (fun c x e => ⟨(r.o c x e).1, by rw [upd_ne (ne_of_none e o)]; exact (r.o c x e).2⟩) fun c q => ⟨by
    rw [upd_ne (fun (z : c = a) => w (by rw [← z]; exact q))]
    exact (r.owned q).1, rfl⟩
/-- a tuple that stands may be known -/
theorem R.knowTup {q : Addr} {xs : List V} (r : R K O G F σ H E) (h : H q = some (.tup xs)) : ∃ F', Sub F F' ∧ R K O G F' σ H E ∧ F' q = some (.tup xs) := by
  cases hF : F q with
  | some u =>
    rcases r.f q u hF with e | ⟨_, o, e⟩
    · rw [h] at e; cases e
      exact ⟨F, Sub.refl F, r, hF⟩
    · rw [h] at e; cases e
  | none =>
    refine ⟨upd F q (.tup xs), Sub.upd_new _ hF, r.step (Sub.upd_new _ hF) (r.f.upd_in h) (fun a u e => ⟨(r.o a u e).1, ?_⟩) fun a w => ⟨?_, rfl⟩, upd_same⟩
    · by_cases z : a = q
      · subst z
        have := (r.o a u e).1
        rw [h] at this; cases this
        exact .inr rfl
      · rw [upd_ne z]; exact (r.o a u e).2
    · obtain ⟨n, _, u, e, t⟩ := r.owned w
      rw [upd_ne (fun z => by subst z; rw [h] at e; cases e; cases t)]
      exact n
/-- a result's freezing -/
theorem R.frz (r : R K O G F σ H E) (q : RR K O F σ H E v b) : ∃ F', Sub F F' ∧ R K O G F' σ H E ∧ Rep K F' v b.d := by
  cases hb : ownA v b with
  | none =>
    cases b with
    | dat d => exact ⟨F, Sub.refl F, r, q.1⟩
    | own d => obtain ⟨a, e, _⟩ := q.1; subst e; cases hb
    | par a d => obtain ⟨e, _⟩ := q.1; subst e; cases hb
  | some a =>
    obtain ⟨e, n, o, c⟩ := q.1.own hb
    obtain ⟨u, hu, _⟩ := c.there
    subst e
    exact ⟨upd F a u, Sub.upd_new _ n, r.freeze hu n o (q.2 a hb), c.rep hu n⟩

theorem getset_eq {α : Type} {l : List α} {i : Nat} {x : α} (h : i < l.length) : (l.set i x)[i]? = some x := List.getElem?_set_self h
theorem getset {α : Type} {l : List α} {i j : Nat} {x y : α} (h : (l.set i x)[j]? = some y) : (j = i ∧ y = x ∧ i < l.length) ∨ (j ≠ i ∧ l[j]? = some y) := by
  by_cases e : j = i
  · subst e
    have hl : j < l.length := by
      have := (List.getElem?_eq_some_iff.mp h).1
      simpa using this
    rw [List.getElem?_set_self hl] at h
    exact .inl ⟨rfl, (Option.some.inj h).symm, hl⟩
  · rw [List.getElem?_set_ne (fun z => e z.symm)] at h
    exact .inr ⟨e, h⟩
theorem Owned.of_set {i : Nat} {v : V} {b : B} (h : Owned (σ.set i (some v)) (E.set i (some b)) a) : ownA v b = some a ∨ Owned σ E a := by
  obtain ⟨j, c, w, h1, h2, h3⟩ := h
  rcases getset h1 with ⟨rfl, e, hl⟩ | ⟨ne, h1⟩
  · cases e
    rcases getset h2 with ⟨_, e, _⟩ | ⟨ne, _⟩
    · cases e; exact .inl h3
    · exact absurd rfl ne
  · rcases getset h2 with ⟨e, _, _⟩ | ⟨_, h2⟩
    · exact absurd e ne
    · exact .inr ⟨j, c, w, h1, h2, h3⟩
/-- a slot is stored -/
theorem R.set (r : R K O G F σ H E) (i : Nat) (q : RR K O F σ H E v b) : R K O G F (σ.set i (some v)) H (E.set i (some b)) := by
  refine ⟨r.g, r.f, r.o, by rw [List.length_set, List.length_set]; exact r.len, fun j c e => ?_, fun j k a bj bk w x h1 h2 h3 h4 h5 h6 => ?_⟩
  · rcases getset e with ⟨rfl, e, hl⟩ | ⟨ne, e⟩
    · cases e
      exact ⟨v, getset_eq (by rw [r.len]; exact hl), q.1⟩
    · obtain ⟨w, e2, q2⟩ := r.at_ j c e
      exact ⟨w, by rw [List.getElem?_set_ne (fun z => ne z.symm)]; exact e2, q2⟩
  · rcases getset h1 with ⟨e1, e, hl⟩ | ⟨ne, g1⟩
    · rcases getset h3 with ⟨_, e', _⟩ | ⟨z, _⟩
      · rcases getset h2 with ⟨e2, _, _⟩ | ⟨ne, g2⟩
        · rw [e1, e2]
        · rcases getset h4 with ⟨e, _, _⟩ | ⟨_, g4⟩
          · exact absurd e ne
          · cases e; cases e'
            exact absurd ⟨k, bk, x, g2, g4, h6⟩ (q.2 a h5)
      · exact absurd e1 z
    · rcases getset h3 with ⟨e, _, _⟩ | ⟨_, g3⟩
      · exact absurd e ne
      · rcases getset h2 with ⟨e2, e, _⟩ | ⟨ne2, g2⟩
        · rcases getset h4 with ⟨_, e', _⟩ | ⟨z, _⟩
          · cases e; cases e'
            exact absurd ⟨j, bj, w, g1, g3, h5⟩ (q.2 a h6)
          · exact absurd e2 z
        · rcases getset h4 with ⟨e, _, _⟩ | ⟨_, g4⟩
          · exact absurd e ne2
          · exact r.nd j k a bj bk w x g1 g2 g3 g4 h5 h6
/-- a slot is forgotten -/
theorem R.forget (r : R K O G F σ H E) (i : Nat) : R K O G F σ H (E.set i none) := by
  refine ⟨r.g, r.f, r.o, by rw [List.length_set]; exact r.len, fun j c e => ?_, fun j k a bj bk w x h1 h2 h3 h4 h5 h6 => ?_⟩
  · rcases getset e with ⟨_, e, _⟩ | ⟨_, e⟩
    · cases e
    · exact r.at_ j c e
  · rcases getset h1 with ⟨_, e, _⟩ | ⟨_, h1⟩
    · cases e
    · rcases getset h2 with ⟨_, e, _⟩ | ⟨_, h2⟩
      · cases e
      · exact r.nd j k a bj bk w x h1 h2 h3 h4 h5 h6
theorem R.forget_owned (r : R K O G F σ H E) {i : Nat} (h1 : E[i]? = some (some b)) (h2 : σ[i]? = some (some v)) (h3 : ownA v b = some a) : ¬ Owned σ (E.set i none) a := fun ⟨j, c, w, e1, e2, e3⟩ => by
  rcases getset e1 with ⟨_, e, _⟩ | ⟨ne, e1⟩
  · cases e
  · exact ne (r.nd j i a c b w v e1 h1 e2 h2 e3 h3)
theorem getsome_lt {α : Type} {l : List α} {i : Nat} {x : α} (h : l[i]? = some x) : i < l.length := (List.getElem?_eq_some_iff.mp h).1
/-- a slot's value moved out -/
theorem R.move (r : R K O G F σ H E) {i : Nat} (h1 : E[i]? = some (some b)) : ∃ v, σ[i]? = some (some v) ∧ R K O G F σ H (E.set i none) ∧ RR K O F σ H (E.set i none) v b := by
  obtain ⟨v, e, q⟩ := r.at_ i b h1
  exact ⟨v, e, r.forget i, q, fun a h => r.forget_owned h1 e h⟩
theorem set_back {α : Type} {l : List (Option α)} {i : Nat} {x : α} {y : Option α} : (l.set i none).set i y = l.set i y := by
  rw [List.set_set]
theorem set_id {α : Type} {l : List α} {i : Nat} {x : α} (h : l[i]? = some x) : l.set i x = l := by
  apply List.ext_getElem?
  intro j
  by_cases e : j = i
  · subst e; rw [getset_eq (getsome_lt h), h]
  · rw [List.getElem?_set_ne (fun z => e z.symm)]
/-- a slot's freezing -/
theorem R.frzVar (r : R K O G F σ H E) {i : Nat} (h1 : E[i]? = some (some b)) : ∃ v F', σ[i]? = some (some v) ∧ Sub F F' ∧ R K O G F' σ H (E.set i (some (.dat b.d))) ∧ Rep K F' v b.d := by
  obtain ⟨v, e, r2, q⟩ := r.move h1
  obtain ⟨F', s, r3, p⟩ := r2.frz q
  have r4 := r3.set i (v := v) (b := .dat b.d) ⟨p, fun a h => by cases v <;> cases h⟩
  rw [set_id e, set_back (x := b)] at r4
  exact ⟨v, F', e, s, r4, p⟩
/-- a cell of ours is rewritten -/
theorem R.write (r : R K O G F σ H E) {i : Nat} (h1 : E[i]? = some (some b)) (h2 : σ[i]? = some (some v)) (h3 : ownA v b = some a) (c : Cell K F (upd H a u) a d) :
    R K O G F σ (upd H a u) (E.set i (some (b.put d))) := by
  obtain ⟨n, o, x, hx, _⟩ := r.owned ⟨i, b, v, h1, h2, h3⟩
  have r2 := r.forget i
  have w := r.forget_owned h1 h2 h3
  have r3 : R K O G F σ (upd H a u) (E.set i none) := r2.step (Sub.refl F) (r.f.upd_out _ n) (fun c y e => by rw [upd_ne (ne_of_none e o)]; exact r.o c y e) fun c q => ⟨(r2.owned q).1, upd_ne (fun (z : c = a) => w (by rw [← z]; exact q))⟩
  have hv : v = .ref a := by
    obtain ⟨v', e, q⟩ := r.at_ i b h1
    rw [h2] at e; cases e
    exact (q.own h3).1
  subst hv
  have q : RR K O F σ (upd H a u) (E.set i none) (.ref a) (b.put d) := by
    cases b with
    | dat d => cases h3
    | own d' => exact ⟨⟨a, rfl, n, o, c⟩, fun a' h => by cases h; exact w⟩
    | par a' d' =>
      obtain ⟨v', e, q⟩ := r.at_ i _ h1
      rw [h2] at e; cases e
      obtain ⟨e, _⟩ := q
      cases e
      exact ⟨⟨rfl, n, o, c⟩, fun a' h => by cases h; exact w⟩
  have r4 := r3.set i q
  rw [set_id h2, set_back (x := b)] at r4
  exact r4
end

/-! ### judgements -/
abbrev WE := En → (B → En → Prop) → Prop
abbrev WT := En → (Bool → En → Prop) → Prop
abbrev WA := En → (List D → En → Prop) → Prop
/-- an operand: data, or a slot that is read later -/
inductive Opn where
  | val (d : D) | slot (i : Nat)
def Opn.get (E : En) : Opn → Option D
  | .val d => some d
  | .slot i => match E[i]? with
    | some (some b) => some b.d
    | _ => none
abbrev WO := En → (Opn → En → Prop) → Prop
def OB (K : PySem.W.Frag) (F : Hp) (σ : L2.St) (v : V) : Opn → Prop
  | .val d => Rep K F v d
  | .slot i => σ[i]? = some (some v)

def EOk (K : PySem.W.Frag) (t : TE) (w : WE) : Prop := ∀ O G F σ H E (Q : B → En → Prop), R K O G F σ H E → w E Q →
  t σ H fun v H' => ∃ F' E' b, Sub F F' ∧ R K O G F' σ H' E' ∧ RR K O F' σ H' E' v b ∧ Q b E'
def OOk (K : PySem.W.Frag) (t : TE) (w : WO) : Prop := ∀ O G F σ H E (Q : Opn → En → Prop), R K O G F σ H E → w E Q →
  t σ H fun v H' => ∃ F' E' o, Sub F F' ∧ R K O G F' σ H' E' ∧ OB K F' σ v o ∧ Q o E'
def TOk (K : PySem.W.Frag) (t : TT) (w : WT) : Prop := ∀ O G F σ H E (Q : Bool → En → Prop), R K O G F σ H E → w E Q →
  t σ H fun b H' => ∃ F' E', Sub F F' ∧ R K O G F' σ H' E' ∧ Q b E'
def AOk (K : PySem.W.Frag) (t : TA) (w : WA) : Prop := ∀ O G F σ H E (Q : List D → En → Prop), R K O G F σ H E → w E Q →
  t σ H fun vs H' => ∃ F' E' ds, Sub F F' ∧ R K O G F' σ H' E' ∧ RepL K F' vs ds ∧ Q ds E'

/-- what a value may be read as -/
def Rdb (K : PySem.W.Frag) (F H : Hp) (v : V) (d : D) : Prop := Rep K F v d ∨ ∃ a, v = .ref a ∧ Cell K F H a d
theorem OB.mono {K : PySem.W.Frag} {F F' : Hp} {σ : L2.St} {v : V} {o : Opn} (s : Sub F F') (h : OB K F σ v o) : OB K F' σ v o := by
  cases o with
  | val d => exact Rep.mono s h
  | slot i => exact h
theorem R.rdb {K : PySem.W.Frag} {O G F : Hp} {σ : L2.St} {H : Hp} {E : En} {v : V} {o : Opn} {d : D} (r : R K O G F σ H E) (h : OB K F σ v o) (g : o.get E = some d) : Rdb K F H v d := by
  cases o with
  | val d' => cases g; exact .inl h
  | slot i =>
    have h : σ[i]? = some (some v) := h
    simp only [Opn.get] at g
    split at g
    · rename_i b e
      cases g
      obtain ⟨v', e2, q⟩ := r.at_ i b e
      rw [h] at e2; cases e2
      cases b with
      | dat d => exact .inl q
      | own d => obtain ⟨a, e, _, _, c⟩ := q; exact .inr ⟨a, e, c⟩
      | par a d => obtain ⟨e, _, _, c⟩ := q; exact .inr ⟨a, e, c⟩
    · cases g

section
variable {K : PySem.W.Frag} {F H : Hp} {v : V}
theorem Rdb.lst {ds : List D} (h : Rdb K F H v (.lst ds)) (s : Sub F H) : ∃ a vs, v = .ref a ∧ H a = some (.lst vs) ∧ RepL K F vs ds := by
  rcases h with h | ⟨a, e, vs, h, r⟩
  · cases h with
    | lst h r => exact ⟨_, _, rfl, s.lst h, r⟩
  · exact ⟨a, vs, e, h, r⟩
theorem Rdb.scr {ns : List Int} (h : Rdb K F H v (.scr ns)) (s : Sub F H) : ∃ a, v = .ref a ∧ SqL K H a (ns.map V.int) := by
  rcases h with h | ⟨a, e, h⟩
  · cases h with
    | scr h => exact ⟨_, rfl, s.sql h⟩
  · exact h.elim
theorem Rdb.tup {ds : List D} (h : Rdb K F H v (.tup ds)) (s : Sub F H) : ∃ a vs, v = .ref a ∧ H a = some (.tup vs) ∧ RepL K F vs ds := by
  rcases h with h | ⟨a, e, h⟩
  · cases h with
    | tup h r => exact ⟨_, _, rfl, s.tup h, r⟩
  · exact h.elim
theorem Rdb.int {i : Int} (h : Rdb K F H v (.int i)) : v = .int i := by
  rcases h with h | ⟨a, e, h⟩
  · cases h; rfl
  · exact h.elim
theorem Rdb.bl {i : Bool} (h : Rdb K F H v (.bl i)) : v = .bl i := by
  rcases h with h | ⟨a, e, h⟩
  · cases h; rfl
  · exact h.elim
theorem Rdb.non (h : Rdb K F H v .non) : v = .non := by
  rcases h with h | ⟨a, e, h⟩
  · cases h; rfl
  · exact h.elim
theorem Rdb.str {i : List Nat} (h : Rdb K F H v (.str i)) : v = .str (mkS i) := by
  rcases h with h | ⟨a, e, h⟩
  · cases h; rfl
  · exact h.elim
theorem Rdb.dK {kd : List (D × D)} (h : Rdb K F H v (.dct false kd)) (s : Sub F H) : ∃ a kv, v = .ref a ∧ Rd H a (.dK kv) ∧ RepK K F kv kd := by
  rcases h with h | ⟨a, e, kv, h, r⟩
  · cases h with
    | dK h r => exact ⟨_, _, rfl, s.rd h, r⟩
  · exact ⟨a, kv, e, .inl h, r⟩
theorem Rdb.dT {kd : List (D × D)} (h : Rdb K F H v (.dct true kd)) (s : Sub F H) : ∃ a kv, v = .ref a ∧ Rd H a (.dT kv) ∧ RepT K F kv kd := by
  rcases h with h | ⟨a, e, kv, h, r⟩
  · cases h with
    | dT h r => exact ⟨_, _, rfl, s.rd h, r⟩
  · exact ⟨a, kv, e, .inl h, r⟩
theorem Rdb.rep {d : D} (h : Rdb K F H v d) (s : Sub F H) : Rep K H v d := by
  rcases h with h | ⟨a, e, c⟩
  · exact h.mono s
  · subst e
    cases d with
    | lst ds => obtain ⟨vs, h, r⟩ := c; exact .lst h (r.mono s)
    | dct t kd =>
      cases t
      · obtain ⟨kv, h, r⟩ := c
        exact .dK (.inl h) (r.mono s)
      · obtain ⟨kv, h, r⟩ := c
        exact .dT (.inl h) (r.mono s)
    | _ => exact c.elim
end

/-! ### the frame of an operation on values -/
/-- what an operation hands back -/
def OutB (K : PySem.W.Frag) (O G F : Hp) (σ : L2.St) (E : En) (Q : B → Prop) : VK := fun v H' => ∃ F' b, Sub F F' ∧ R K O G F' σ H' E ∧ RR K O F' σ H' E v b ∧ Q b
def Op1Ok (K : PySem.W.Frag) (r : V → Hp → VK → Prop) (w : D → (B → Prop) → Prop) : Prop := ∀ O G F σ H E x dx (Q : B → Prop) (Q' : VK), R K O G F σ H E → Rdb K F H x dx → w dx Q → (∀ v H', OutB K O G F σ E Q v H' → Q' v H') → r x H Q'
def Op2Ok (K : PySem.W.Frag) (r : R2) (w : D → D → (B → Prop) → Prop) : Prop := ∀ O G F σ H E x y dx dy (Q : B → Prop) (Q' : VK), R K O G F σ H E → Rdb K F H x dx → Rdb K F H y dy → w dx dy Q → (∀ v H', OutB K O G F σ E Q v H' → Q' v H') → r x y H Q'

section
variable {K : PySem.W.Frag} {O G F : Hp} {σ : L2.St} {H : Hp} {E : En} {Q : B → Prop}
theorem OutB.dat {v : V} {d : D} (r : R K O G F σ H E) (p : Rep K F v d) (q : Q (.dat d)) : OutB K O G F σ E Q v H := ⟨F, .dat d, Sub.refl F, r, ⟨p, fun a h => by cases v <;> cases h⟩, q⟩
theorem OutB.lst {a : Addr} {vs : List V} {ds : List D} (r : R K O G F σ H E) (h : H a = none) (p : RepL K F vs ds) (q : Q (.own (.lst ds))) : OutB K O G F σ E Q (.ref a) (upd H a (.lst vs)) :=
  ⟨F, .own (.lst ds), Sub.refl F, r.alloc h, ⟨⟨a, rfl, r.f.gone h, r.oNone h, vs, upd_same, p⟩, fun a' e => by cases e; exact r.notOwned h⟩, q⟩
theorem OutB.tup {a : Addr} {vs : List V} {ds : List D} (r : R K O G F σ H E) (h : H a = none) (p : RepL K F vs ds) (q : Q (.dat (.tup ds))) : OutB K O G F σ E Q (.ref a) (upd H a (.tup vs)) := by
  have n := r.f.gone h
  have r2 := (r.alloc (u := .tup vs) h).freeze upd_same n (r.oNone h) (r.notOwned h)
  exact ⟨_, .dat (.tup ds), Sub.upd_new _ n, r2, ⟨.tup upd_same (p.mono (Sub.upd_new _ n)), fun a' e => by cases e⟩, q⟩
theorem OutB.dctK {a : Addr} {kv : List (Key × V)} {kd : List (D × D)} (r : R K O G F σ H E) (h : H a = none) (p : RepK K F kv kd) (q : Q (.own (.dct false kd))) : OutB K O G F σ E Q (.ref a) (upd H a (.dK kv)) :=
  ⟨F, .own (.dct false kd), Sub.refl F, r.alloc h, ⟨⟨a, rfl, r.f.gone h, r.oNone h, ⟨kv, upd_same, p⟩⟩, fun a' e => by cases e; exact r.notOwned h⟩, q⟩
theorem OutB.dctT {a : Addr} {kv : List (List Key × V)} {kd : List (D × D)} (r : R K O G F σ H E) (h : H a = none) (p : RepT K F kv kd) (q : Q (.own (.dct true kd))) : OutB K O G F σ E Q (.ref a) (upd H a (.dT kv)) :=
  ⟨F, .own (.dct true kd), Sub.refl F, r.alloc h, ⟨⟨a, rfl, r.f.gone h, r.oNone h, ⟨kv, upd_same, p⟩⟩, fun a' e => by cases e; exact r.notOwned h⟩, q⟩
end
end PW

set_option Elab.async false
set_option linter.all false
set_option autoImplicit false
set_option maxRecDepth 100000
set_option maxHeartbeats 4000000
namespace PW
open PySem PySem.Spec PyProof.Rows L2

/-! ### the canonical readings: what w asks -/
def tE (K : PySem.W.Frag) (w : WE) : TE := fun σ H Q => ∃ O G F E Q', R K O G F σ H E ∧ w E Q' ∧ ∀ v H' F' E' b, Sub F F' → R K O G F' σ H' E' → RR K O F' σ H' E' v b → Q' b E' → Q v H'
def tO (K : PySem.W.Frag) (w : WO) : TE := fun σ H Q => ∃ O G F E Q', R K O G F σ H E ∧ w E Q' ∧ ∀ v H' F' E' o, Sub F F' → R K O G F' σ H' E' → OB K F' σ v o → Q' o E' → Q v H'
def tT (K : PySem.W.Frag) (w : WT) : TT := fun σ H Q => ∃ O G F E Q', R K O G F σ H E ∧ w E Q' ∧ ∀ b H' F' E', Sub F F' → R K O G F' σ H' E' → Q' b E' → Q b H'
def tA (K : PySem.W.Frag) (w : WA) : TA := fun σ H Q => ∃ O G F E Q', R K O G F σ H E ∧ w E Q' ∧ ∀ vs H' F' E' ds, Sub F F' → R K O G F' σ H' E' → RepL K F' vs ds → Q' ds E' → Q vs H'
theorem tE_ok {K : PySem.W.Frag} {w : WE} : EOk K (tE K w) w := fun O G F σ H E Q r h => ⟨O, G, F, E, Q, r, h, fun v H' F' E' b s r' q k => ⟨F', E', b, s, r', q, k⟩⟩
theorem tO_ok {K : PySem.W.Frag} {w : WO} : OOk K (tO K w) w := fun O G F σ H E Q r h => ⟨O, G, F, E, Q, r, h, fun v H' F' E' b s r' q k => ⟨F', E', b, s, r', q, k⟩⟩
theorem tT_ok {K : PySem.W.Frag} {w : WT} : TOk K (tT K w) w := fun O G F σ H E Q r h => ⟨O, G, F, E, Q, r, h, fun b H' F' E' s r' k => ⟨F', E', s, r', k⟩⟩
theorem tA_ok {K : PySem.W.Frag} {w : WA} : AOk K (tA K w) w := fun O G F σ H E Q r h => ⟨O, G, F, E, Q, r, h, fun v H' F' E' b s r' q k => ⟨F', E', b, s, r', q, k⟩⟩

abbrev ED (X : Cx) (e : Expr) (w : WE) : Prop := PE X e (tE X.K w)
abbrev OD (X : Cx) (e : Expr) (w : WO) : Prop := PE X e (tO X.K w)
abbrev TD (X : Cx) (e : Expr) (w : WT) : Prop := PT X e (tT X.K w)
abbrev WD (X : Cx) (e : Expr) (w : WT) : Prop := PW X e (tT X.K w)
abbrev AD (X : Cx) (es : List Expr) (w : WA) : Prop := PA X es (tA X.K w)

section
variable {X : Cx} {e : Expr} {es : List Expr}
theorem ed_of {t : TE} {w : WE} (h : PE X e t) (k : EOk X.K t w) : ED X e w := ⟨fun pins s σ H Q I hq => by
  obtain ⟨O, G, F, E, Q', r, hw, kk⟩ := hq
  refine thn (h.run pins s σ H _ I (k O G F σ H E Q' r hw)) fun u s' hu => ?_
  obtain ⟨v, H', I', rv, F', E', b, sb, r', q, p⟩ := hu
  exact ⟨v, H', I', rv, kk v H' F' E' b sb r' q p⟩⟩
theorem od_of {t : TE} {w : WO} (h : PE X e t) (k : OOk X.K t w) : OD X e w := ⟨fun pins s σ H Q I hq => by
  obtain ⟨O, G, F, E, Q', r, hw, kk⟩ := hq
  refine thn (h.run pins s σ H _ I (k O G F σ H E Q' r hw)) fun u s' hu => ?_
  obtain ⟨v, H', I', rv, F', E', b, sb, r', q, p⟩ := hu
  exact ⟨v, H', I', rv, kk v H' F' E' b sb r' q p⟩⟩
theorem td_of {t : TT} {w : WT} (h : PT X e t) (k : TOk X.K t w) : TD X e w := ⟨fun pins s σ H Q I hq => by
  obtain ⟨O, G, F, E, Q', r, hw, kk⟩ := hq
  refine thn (h.run pins s σ H _ I (k O G F σ H E Q' r hw)) fun b s' hu => ?_
  obtain ⟨H', I', F', E', sb, r', p⟩ := hu
  exact ⟨H', I', kk b H' F' E' sb r' p⟩⟩
theorem wd_of {t : TT} {w : WT} (h : PW X e t) (k : TOk X.K t w) : WD X e w := ⟨fun wh pins s σ H Q I hq => by
  obtain ⟨O, G, F, E, Q', r, hw, kk⟩ := hq
  refine thn (h.run wh pins s σ H _ I (k O G F σ H E Q' r hw)) fun b s' hu => ?_
  obtain ⟨H', I', F', E', sb, r', p⟩ := hu
  exact ⟨H', I', kk b H' F' E' sb r' p⟩⟩
theorem ad_of {t : TA} {w : WA} (h : PA X es t) (k : AOk X.K t w) : AD X es w := ⟨fun pos pins s σ H Q I hq => by
  obtain ⟨O, G, F, E, Q', r, hw, kk⟩ := hq
  refine thn (h.run pos pins s σ H _ I (k O G F σ H E Q' r hw)) fun u s' hu => ?_
  obtain ⟨v, H', I', rv, F', E', b, sb, r', q, p⟩ := hu
  exact ⟨v, H', I', rv, kk v H' F' E' b sb r' q p⟩⟩
end

/-! ### what the readings are, as plain data -/
def wC (d : D) : WE := fun E Q => Q (.dat d) E
/-- a name: known from now on -/
def wV (i : Nat) : WE := fun E Q => match E[i]? with
  | some (some (.dat d)) => Q (.dat d) E
  | some (some b) => Q (.dat b.d) (E.set i (some (.dat b.d)))
  | _ => False
/-- a name for the last time: it is handed on -/
def wM (i : Nat) : WE := fun E Q => match E[i]? with
  | some (some (.dat d)) => Q (.dat d) E
  | some (some (.own d)) => Q (.own d) (E.set i none)
  | _ => False
def oV (i : Nat) : WO := fun E Q => match E[i]? with
  | some (some (.dat d)) => Q (.val d) E
  | some (some _) => Q (.slot i) E
  | _ => False
def oE (w : WE) : WO := fun E Q => w E fun b E' => Q (.val b.d) E'
def wOp (wr : D → D → (B → Prop) → Prop) (wa wb : WO) : WE := fun E Q => wa E fun oa E1 => wb E1 fun ob E2 => match oa.get E2, ob.get E2 with
  | some x, some y => wr x y fun b => Q b E2
  | _, _ => False
def wUn (wr : D → (B → Prop) → Prop) (wa : WO) : WE := fun E Q => wa E fun oa E1 => match oa.get E1 with
  | some x => wr x fun b => Q b E1
  | _ => False
/-- a value that is True or False, as a test -/
def wTst (w : WE) : WT := fun E Q => w E fun b E' => match b with
  | .dat (.bl k) => Q k E'
  | _ => False
def wAnd (t u : WT) : WT := fun E Q => t E fun b E1 => if b = true then u E1 Q else Q false E1
def wOr (t u : WT) : WT := fun E Q => t E fun b E1 => if b = true then Q true E1 else u E1 Q
def wNot (t : WT) : WT := fun E Q => t E fun b E1 => Q (!b) E1
def wIf (t : WT) (wa wb : WE) : WE := fun E Q => t E fun b E1 => if b = true then wa E1 Q else wb E1 Q
/-- and, or, not as values -/
def wBl (t : WT) : WE := fun E Q => t E fun b E1 => Q (.dat (.bl b)) E1
def aN : WA := fun E Q => Q [] E
def aC (w : WE) (r : WA) : WA := fun E Q => w E fun b E1 => r E1 fun ds E2 => Q (b.d :: ds) E2
def wTup (a : WA) : WE := fun E Q => a E fun ds E1 => ds.length ≤ 16777216 ∧ Q (.dat (.tup ds)) E1
def wLst (a : WA) : WE := fun E Q => a E fun ds E1 => ds.length ≤ 16777216 ∧ Q (.own (.lst ds)) E1

section
variable {K : PySem.W.Frag}
theorem ok_c {v : V} {d : D} (h : ∀ F, Rep K F v d) : EOk K (tC v) (wC d) := fun O G F σ H E Q r q => ⟨F, E, .dat d, Sub.refl F, r, ⟨h F, fun a e => by cases v <;> cases e⟩, q⟩
theorem datRR {O F : Hp} {σ : L2.St} {H : Hp} {E : En} {v : V} {d : D} (h : Rep K F v d) : RR K O F σ H E v (.dat d) := ⟨h, fun a e => by cases v <;> cases e⟩
theorem ok_v {i : Nat} : EOk K (tVar i) (wV i) := fun O G F σ H E Q r q => by
  unfold wV at q
  split at q
  · rename_i d e
    obtain ⟨v, h, p⟩ := r.at_ i _ e
    exact ⟨v, h, F, E, .dat d, Sub.refl F, r, datRR p, q⟩
  · rename_i b hb e
    obtain ⟨v, F', h, s, r', p⟩ := r.frzVar e
    exact ⟨v, h, F', _, .dat b.d, s, r', datRR p, q⟩
  · exact q.elim
theorem ok_m {i : Nat} : EOk K (tVar i) (wM i) := fun O G F σ H E Q r q => by
  unfold wM at q
  split at q
  · rename_i d e
    obtain ⟨v, h, p⟩ := r.at_ i _ e
    exact ⟨v, h, F, E, .dat d, Sub.refl F, r, datRR p, q⟩
  · rename_i d e
    obtain ⟨v, h, r', p⟩ := r.move e
    exact ⟨v, h, F, _, .own d, Sub.refl F, r', p, q⟩
  · exact q.elim
theorem ok_ov {i : Nat} : OOk K (tVar i) (oV i) := fun O G F σ H E Q r q => by
  unfold oV at q
  split at q
  · rename_i d e
    obtain ⟨v, h, p⟩ := r.at_ i _ e
    exact ⟨v, h, F, E, .val d, Sub.refl F, r, p, q⟩
  · rename_i b hb e
    obtain ⟨v, h, p⟩ := r.at_ i _ e
    exact ⟨v, h, F, E, .slot i, Sub.refl F, r, h, q⟩
  · exact q.elim
theorem ok_oe {t : TE} {w : WE} (h : EOk K t w) (mono : ∀ σ H (Q Q' : VK), (∀ v H', Q v H' → Q' v H') → t σ H Q → t σ H Q') : OOk K t (oE w) := fun O G F σ H E Q r q => by
  refine mono σ H _ _ (fun v H' hq => ?_) (h O G F σ H E _ r q)
  obtain ⟨F', E', b, s, r', p, q'⟩ := hq
  obtain ⟨F2, s2, r2, p2⟩ := r'.frz p
  exact ⟨F2, E', .val b.d, s.trans s2, r2, p2, q'⟩
theorem tE_mono {w : WE} : ∀ σ H (Q Q' : VK), (∀ v H', Q v H' → Q' v H') → tE K w σ H Q → tE K w σ H Q' := fun σ H Q Q' h ⟨O, G, F, E, Q0, r, hw, k⟩ => ⟨O, G, F, E, Q0, r, hw, fun v H' F' E' b s r' p q => h _ _ (k v H' F' E' b s r' p q)⟩
/-- an evaluation goes on -/
theorem tE_bind {w : WE} {O G F : Hp} {σ : L2.St} {H : Hp} {E : En} {Q : VK} {P : B → En → Prop} (r : R K O G F σ H E) (h : w E P) (k : ∀ v H' F' E' b, Sub F F' → R K O G F' σ H' E' → RR K O F' σ H' E' v b → P b E' → Q v H') : tE K w σ H Q := ⟨O, G, F, E, P, r, h, k⟩
theorem tO_bind {w : WO} {O G F : Hp} {σ : L2.St} {H : Hp} {E : En} {Q : VK} {P : Opn → En → Prop} (r : R K O G F σ H E) (h : w E P) (k : ∀ v H' F' E' o, Sub F F' → R K O G F' σ H' E' → OB K F' σ v o → P o E' → Q v H') : tO K w σ H Q := ⟨O, G, F, E, P, r, h, k⟩
theorem tT_bind {w : WT} {O G F : Hp} {σ : L2.St} {H : Hp} {E : En} {Q : Bool → Hp → Prop} {P : Bool → En → Prop} (r : R K O G F σ H E) (h : w E P) (k : ∀ b H' F' E', Sub F F' → R K O G F' σ H' E' → P b E' → Q b H') : tT K w σ H Q := ⟨O, G, F, E, P, r, h, k⟩
theorem tA_bind {w : WA} {O G F : Hp} {σ : L2.St} {H : Hp} {E : En} {Q : List V → Hp → Prop} {P : List D → En → Prop} (r : R K O G F σ H E) (h : w E P) (k : ∀ vs H' F' E' ds, Sub F F' → R K O G F' σ H' E' → RepL K F' vs ds → P ds E' → Q vs H') : tA K w σ H Q := ⟨O, G, F, E, P, r, h, k⟩

theorem ok_op {r : R2} {wr : D → D → (B → Prop) → Prop} {wa wb : WO} (h : Op2Ok K r wr) : EOk K (tOp r (tO K wa) (tO K wb)) (wOp wr wa wb) := fun O G F σ H E Q r0 q => by
  refine tO_bind r0 q fun x H1 F1 E1 oa s1 r1 p1 q1 => ?_
  refine tO_bind r1 q1 fun y H2 F2 E2 ob s2 r2 p2 q2 => ?_
  split at q2
  · rename_i dx dy ex ey
    refine h O G F2 σ H2 E2 x y dx dy _ _ r2 (r2.rdb (p1.mono s2) ex) (r2.rdb p2 ey) q2 ?_
    intro v H' ⟨F', b, s3, r3, p3, q3⟩
    exact ⟨F', E2, b, (s1.trans s2).trans s3, r3, p3, q3⟩
  · exact q2.elim
theorem ok_un {r : V → Hp → VK → Prop} {wr : D → (B → Prop) → Prop} {wa : WO} (h : Op1Ok K r wr) : EOk K (fun σ H Q => tO K wa σ H fun x H1 => r x H1 Q) (wUn wr wa) := fun O G F σ H E Q r0 q => by
  refine tO_bind r0 q fun x H1 F1 E1 oa s1 r1 p1 q1 => ?_
  split at q1
  · rename_i dx ex
    refine h O G F1 σ H1 E1 x dx _ _ r1 (r1.rdb p1 ex) q1 ?_
    intro v H' ⟨F', b, s3, r3, p3, q3⟩
    exact ⟨F', E1, b, s1.trans s3, r3, p3, q3⟩
  · exact q1.elim
theorem ok_tst {w : WE} : TOk K (tTest (tE K w)) (wTst w) := fun O G F σ H E Q r0 q => by
  refine tE_bind r0 q fun v H1 F1 E1 b s1 r1 p1 q1 => ?_
  split at q1
  · rename_i k
    have p := p1.1
    have e : v = .bl k := by cases p; rfl
    exact ⟨k, e, F1, E1, s1, r1, q1⟩
  · exact q1.elim
theorem ok_tB {w : WE} : TOk K (tB (tE K w)) (wTst w) := ok_tst
theorem ok_and {t u : WT} : TOk K (tAnd (tT K t) (tT K u)) (wAnd t u) := fun O G F σ H E Q r0 q => by
  refine tT_bind r0 q fun b H1 F1 E1 s1 r1 q1 => ?_
  cases b with
  | true => exact tT_bind r1 q1 fun b H2 F2 E2 s2 r2 q2 => ⟨F2, E2, s1.trans s2, r2, q2⟩
  | false => exact ⟨F1, E1, s1, r1, q1⟩
theorem ok_or {t u : WT} : TOk K (tOr (tT K t) (tT K u)) (wOr t u) := fun O G F σ H E Q r0 q => by
  refine tT_bind r0 q fun b H1 F1 E1 s1 r1 q1 => ?_
  cases b with
  | false => exact tT_bind r1 q1 fun b H2 F2 E2 s2 r2 q2 => ⟨F2, E2, s1.trans s2, r2, q2⟩
  | true => exact ⟨F1, E1, s1, r1, q1⟩
theorem ok_not {t : WT} : TOk K (tNot (tT K t)) (wNot t) := fun O G F σ H E Q r0 q =>
  tT_bind r0 q fun b H1 F1 E1 s1 r1 q1 => ⟨F1, E1, s1, r1, q1⟩
theorem ok_if {t : WT} {wa wb : WE} : EOk K (tIf (tT K t) (tE K wa) (tE K wb)) (wIf t wa wb) := fun O G F σ H E Q r0 q => by
  refine tT_bind r0 q fun b H1 F1 E1 s1 r1 q1 => ?_
  cases b with
  | true => exact tE_bind r1 q1 fun v H2 F2 E2 b s2 r2 p2 q2 => ⟨F2, E2, b, s1.trans s2, r2, p2, q2⟩
  | false => exact tE_bind r1 q1 fun v H2 F2 E2 b s2 r2 p2 q2 => ⟨F2, E2, b, s1.trans s2, r2, p2, q2⟩
theorem ok_an : AOk K tNil aN := fun O G F σ H E Q r0 q => ⟨F, E, [], Sub.refl F, r0, .nil, q⟩
theorem ok_ac {w : WE} {a : WA} : AOk K (tCons (tE K w) (tA K a)) (aC w a) := fun O G F σ H E Q r0 q => by
  refine tE_bind r0 q fun v H1 F1 E1 b s1 r1 p1 q1 => ?_
  obtain ⟨F2, s2, r2, p2⟩ := r1.frz p1
  refine tA_bind r2 q1 fun vs H3 F3 E3 ds s3 r3 p3 q3 => ?_
  exact ⟨F3, E3, b.d :: ds, (s1.trans s2).trans s3, r3, .cons (p2.mono s3) p3, q3⟩
theorem line_eq : sizeLine = 16777216 := sizeLine_eq
theorem ok_tup {a : WA} : EOk K (tTup (tA K a)) (wTup a) := fun O G F σ H E Q r0 q => by
  refine tA_bind r0 q fun vs H1 F1 E1 ds s1 r1 p1 q1 => ?_
  refine ⟨by rw [p1.length, line_eq]; exact q1.1, fun p hp => ?_⟩
  obtain ⟨F2, b, s2, r2, p2, q2⟩ := OutB.tup (Q := fun b => Q b E1) r1 hp p1 q1.2
  exact ⟨F2, E1, b, s1.trans s2, r2, p2, q2⟩
theorem ok_lst {a : WA} : EOk K (tLst (tA K a)) (wLst a) := fun O G F σ H E Q r0 q => by
  refine tA_bind r0 q fun vs H1 F1 E1 ds s1 r1 p1 q1 => ?_
  refine ⟨by rw [p1.length, line_eq]; exact q1.1, fun p hp => ?_⟩
  obtain ⟨F2, b, s2, r2, p2, q2⟩ := OutB.lst (Q := fun b => Q b E1) r1 hp p1 q1.2
  exact ⟨F2, E1, b, s1.trans s2, r2, p2, q2⟩
end

/-! ### rules over the program's text: expressions -/
section
variable {X : Cx} {e a b c : Expr} {es : List Expr} {pos : Pos}
theorem ed_int {i j pos} : ED X (.Constant (.int i) j pos) (wC (.int i)) := ed_of pe_int (ok_c fun _ => .int i)
theorem ed_bl {b j pos} : ED X (.Constant (.bool b) j pos) (wC (.bl b)) := ed_of pe_bl (ok_c fun _ => .bl b)
theorem ed_non {j pos} : ED X (.Constant .none j pos) (wC .non) := ed_of pe_non (ok_c fun _ => .non)
theorem ed_str {x : Str} {l : List Nat} {j pos} (h : x = mkS l) : ED X (.Constant (.str x) j pos) (wC (.str l)) := by
  subst h
  exact ed_of pe_str (ok_c fun _ => .str l)
theorem ed_v (i : Nat) {x : Str} {pos : Pos} (hN : X.N[i]? = some x := by rfl) (hv : Vis X.env.scope x := by first | exact Or.inl rfl | exact Or.inr (Or.inl rfl) | exact Or.inr (Or.inr rfl)) (hd : (x == ("__debug__" : Str)) = false := by decide)
    (hcd : (x == ("__classdict__" : Str)) = false := by decide) : ED X (.Name x pos) (wV i) := ed_of (pe_var hN hv hd hcd) ok_v
theorem ed_m (i : Nat) {x : Str} {pos : Pos} (hN : X.N[i]? = some x := by rfl) (hv : Vis X.env.scope x := by first | exact Or.inl rfl | exact Or.inr (Or.inl rfl) | exact Or.inr (Or.inr rfl)) (hd : (x == ("__debug__" : Str)) = false := by decide)
    (hcd : (x == ("__classdict__" : Str)) = false := by decide) : ED X (.Name x pos) (wM i) := ed_of (pe_var hN hv hd hcd) ok_m
theorem od_v (i : Nat) {x : Str} {pos : Pos} (hN : X.N[i]? = some x := by rfl) (hv : Vis X.env.scope x := by first | exact Or.inl rfl | exact Or.inr (Or.inl rfl) | exact Or.inr (Or.inr rfl)) (hd : (x == ("__debug__" : Str)) = false := by decide)
    (hcd : (x == ("__classdict__" : Str)) = false := by decide) : OD X (.Name x pos) (oV i) := od_of (pe_var hN hv hd hcd) ok_ov
theorem od_e {w : WE} (h : ED X e w) : OD X e (oE w) := od_of h (ok_oe tE_ok tE_mono)
theorem ed_op {op : Operator} {r : R2} {wr : D → D → (B → Prop) → Prop} {wa wb : WO} (ho : OpR X (binaryOp op) r) (hk : Op2Ok X.K r wr) (ha : OD X a wa) (hb : OD X b wb) : ED X (.BinOp a op b pos) (wOp wr wa wb) := ed_of (pe_op ho ha hb) (ok_op hk)
theorem ed_cmp {op : CmpOp} {r : R2} {wr : D → D → (B → Prop) → Prop} {wa wb : WO} (ho : OpR X (compareOp op) r) (hk : Op2Ok X.K r wr) (hm : behindInMarks op b = false) (ha : OD X a wa) (hb : OD X b wb) : ED X (.Compare a [op] [b] pos) (wOp wr wa wb) := ed_of (pe_cmpR ho ha hb hm) (ok_op hk)
theorem td_cmp {op : CmpOp} {r : R2} {wr : D → D → (B → Prop) → Prop} {wa wb : WO} (ho : OpR X (compareOp op) r) (hk : Op2Ok X.K r wr) (hm : behindInMarks op b = false) (ha : OD X a wa) (hb : OD X b wb) : TD X (.Compare a [op] [b] pos) (wTst (wOp wr wa wb)) := by
  refine td_of (pt_cmpR ho ha hb hm) fun O G F σ H E Q r0 q => ?_
  refine tO_bind r0 q fun x H1 F1 E1 oa s1 r1 p1 q1 => ?_
  refine tO_bind r1 q1 fun y H2 F2 E2 ob s2 r2 p2 q2 => ?_
  split at q2
  · rename_i dx dy ex ey
    refine hk O G F2 σ H2 E2 x y dx dy _ _ r2 (r2.rdb (p1.mono s2) ex) (r2.rdb p2 ey) q2 ?_
    intro v H' ⟨F', b, s3, r3, p3, q3⟩
    dsimp only at q3
    split at q3
    · rename_i k
      have p := p3.1
      have e : v = .bl k := by cases p; rfl
      exact ⟨k, e, F', E2, (s1.trans s2).trans s3, r3, q3⟩
    · exact q3.elim
  · exact q2.elim
theorem ed_un {op : UnaryOp} {r : V → Hp → VK → Prop} {wr : D → (B → Prop) → Prop} {wa : WO} (ho : UnR X (unaryOp op) r) (hk : Op1Ok X.K r wr) (ha : OD X a wa) : ED X (.UnaryOp op a pos) (wUn wr wa) := ed_of (pe_un ho ha) (ok_un hk)
theorem td_val {w : WE} (h : ED X e w) (hw : PT X e (tB (tE X.K w)) := by first | exact pt_val h) : TD X e (wTst w) := td_of hw ok_tB
variable {rest : List Expr}
theorem wd_and1 {t : WT} (ha : TD X a t) : WD X (.BoolOp .And [a] pos) t := pw_and1 ha
theorem wd_or1 {t : WT} (ha : TD X a t) : WD X (.BoolOp .Or [a] pos) t := pw_or1 ha
theorem wd_and {t u : WT} (ha : TD X a t) (hb : WD X (.BoolOp .And (b :: rest) pos) u) : WD X (.BoolOp .And (a :: b :: rest) pos) (wAnd t u) := wd_of (pw_and ha hb) ok_and
theorem wd_or {t u : WT} (ha : TD X a t) (hb : WD X (.BoolOp .Or (b :: rest) pos) u) : WD X (.BoolOp .Or (a :: b :: rest) pos) (wOr t u) := wd_of (pw_or ha hb) ok_or
theorem td_w {t : WT} (h : WD X e t) : TD X e t := h.pt
theorem td_not {t : WT} (ha : TD X a t) : TD X (.UnaryOp .Not a pos) (wNot t) := td_of (pt_not ha) ok_not
theorem ed_if {t : WT} {wa wb : WE} (hc : TD X c t) (ha : ED X a wa) (hb : ED X b wb) : ED X (.IfExp c a b pos) (wIf t wa wb) := ed_of (pe_ifExp hc ha hb) ok_if
/-- and, or, not as values: all but the last are True or False -/
def wAndV (w u : WE) : WE := fun E Q => w E fun x E1 => match x with
  | .dat (.bl k) => if k = true then u E1 Q else Q (.dat (.bl false)) E1
  | _ => False
def wOrV (w u : WE) : WE := fun E Q => w E fun x E1 => match x with
  | .dat (.bl k) => if k = true then Q (.dat (.bl true)) E1 else u E1 Q
  | _ => False
def wNotV (w : WE) : WE := fun E Q => w E fun x E1 => match x with
  | .dat (.bl k) => Q (.dat (.bl (!k))) E1
  | _ => False
theorem ed_one {op} {w : WE} (h : ED X a w) : ED X (.BoolOp op [a] pos) w := pe_one h
theorem ed_and {w u : WE} (ha : ED X a w) (hb : ED X (.BoolOp .And (b :: rest) pos) u) : ED X (.BoolOp .And (a :: b :: rest) pos) (wAndV w u) := by
  refine ed_of (pe_and ha hb) fun O G F σ H E Q r0 q => ?_
  refine tE_bind r0 q fun v H1 F1 E1 b s1 r1 p1 q1 => ?_
  split at q1
  · rename_i k
    have p := p1.1
    have e : v = .bl k := by cases p; rfl
    refine ⟨k, e, ?_⟩
    cases k with
    | true => exact tE_bind r1 q1 fun v H2 F2 E2 b s2 r2 p2 q2 => ⟨F2, E2, b, s1.trans s2, r2, p2, q2⟩
    | false => exact ⟨F1, E1, _, s1, r1, datRR (.bl false), q1⟩
  · exact q1.elim
theorem ed_or {w u : WE} (ha : ED X a w) (hb : ED X (.BoolOp .Or (b :: rest) pos) u) : ED X (.BoolOp .Or (a :: b :: rest) pos) (wOrV w u) := by
  refine ed_of (pe_or ha hb) fun O G F σ H E Q r0 q => ?_
  refine tE_bind r0 q fun v H1 F1 E1 b s1 r1 p1 q1 => ?_
  split at q1
  · rename_i k
    have p := p1.1
    have e : v = .bl k := by cases p; rfl
    refine ⟨k, e, ?_⟩
    cases k with
    | false => exact tE_bind r1 q1 fun v H2 F2 E2 b s2 r2 p2 q2 => ⟨F2, E2, b, s1.trans s2, r2, p2, q2⟩
    | true => exact ⟨F1, E1, _, s1, r1, datRR (.bl true), q1⟩
  · exact q1.elim
theorem ed_not {w : WE} (ha : ED X a w) : ED X (.UnaryOp .Not a pos) (wNotV w) := by
  refine ed_of (pe_not ha) fun O G F σ H E Q r0 q => ?_
  refine tE_bind r0 q fun v H1 F1 E1 b s1 r1 p1 q1 => ?_
  split at q1
  · rename_i k
    have p := p1.1
    have e : v = .bl k := by cases p; rfl
    exact ⟨k, e, F1, E1, _, s1, r1, datRR (.bl _), q1⟩
  · exact q1.elim
theorem ad_n : AD X [] aN := ad_of pa_nil ok_an
theorem ad_c {w : WE} {r : WA} (ha : ED X e w) (hr : AD X es r) (hs : starEach (e :: es) X.env = (false, eval e X.env) :: starEach es X.env := by rfl) : AD X (e :: es) (aC w r) := ad_of (pa_cons ha hr hs) ok_ac
theorem ed_tup {x1} {w : WA} (h : AD X es w) : ED X (.Tuple es x1 pos) (wTup w) := ed_of (pe_tup h) ok_tup
theorem ed_lst {w : WA} (h : AD X es w) : ED X (.List es pos) (wLst w) := ed_of (pe_lst h) ok_lst
/-- a module's own constant -/
theorem ed_glob {x : Str} {v : V} {d : D} {u : Value} {pos : Pos} (hg : Gl X x) (hm : X.mg x = some u) (r : RelV v u) (h : ∀ F, Rep X.K F v d) (hd : (x == ("__debug__" : Str)) = false := by decide) : ED X (.Name x pos) (wC d) := ed_of (pe_glob hg hm r hd) (ok_c h)
end
end PW

set_option Elab.async false
set_option linter.all false
set_option autoImplicit false
set_option maxRecDepth 100000
set_option maxHeartbeats 4000000
namespace PW
open PySem PySem.Spec PyProof.Rows L2

/-! ### operations, as plain data -/
def wAdd : D → D → (B → Prop) → Prop
  | .int i, .int j, Q => Q (.dat (.int (i + j)))
  | .str a, .str b, Q => a.length + b.length ≤ 16777216 ∧ Q (.dat (.str (a ++ b)))
  | .lst a, .lst b, Q => a.length + b.length ≤ 16777216 ∧ Q (.own (.lst (a ++ b)))
  | .tup a, .tup b, Q => a.length + b.length ≤ 16777216 ∧ Q (.dat (.tup (a ++ b)))
  | _, _, _ => False
def wSub : D → D → (B → Prop) → Prop
  | .int i, .int j, Q => Q (.dat (.int (i - j)))
  | _, _, _ => False
def MulOk (i j : Int) : Prop := (-(2 ^ 64) < i ∧ i < 2 ^ 64) ∨ (-(2 ^ 64) < j ∧ j < 2 ^ 64) ∨ (i.natAbs < 2 ^ 2000 ∧ j.natAbs < 2 ^ 2000)
theorem MulOk.ok {i j : Int} (h : MulOk i j) : IntMulOk i j := by
  rcases h with h | h | ⟨h1, h2⟩
  · exact CMul.ok (.inl h)
  · exact CMul.ok (.inr h)
  · exact (wide_mul h1 h2 (by decide) (by decide) (by decide)).ok
def wMul : D → D → (B → Prop) → Prop
  | .int i, .int j, Q => MulOk i j ∧ Q (.dat (.int (i * j)))
  | _, _, _ => False
def wMod : D → D → (B → Prop) → Prop
  | .int i, .int j, Q => 0 < j ∧ Q (.dat (.int (i % j)))
  | _, _, _ => False
def wFdiv : D → D → (B → Prop) → Prop
  | .int i, .int j, Q => (0 < j ∧ j.natAbs < 2 ^ 2000) ∧ Q (.dat (.int (i / j)))
  | _, _, _ => False
def wPow : D → D → (B → Prop) → Prop
  | .int i, .int j, Q => (0 ≤ j ∧ j ≤ 1000000 ∧ i.natAbs < 2 ^ 64) ∧ Q (.dat (.int (i ^ j.toNat)))
  | _, _, _ => False
def wShl : D → D → (B → Prop) → Prop
  | .int i, .int j, Q => (0 ≤ j ∧ j ≤ 1000000 ∧ i.natAbs < 2 ^ 64) ∧ Q (.dat (.int (i * 2 ^ j.toNat)))
  | _, _, _ => False
def wBand : D → D → (B → Prop) → Prop
  | .int i, .int j, Q => Q (.dat (.int (Builtin.bitAnd i j)))
  | _, _, _ => False
def wNeg : D → (B → Prop) → Prop
  | .int i, Q => Q (.dat (.int (-i)))
  | _, _ => False

theorem mkS_append (a b : List Nat) : mkS a ++ mkS b = mkS (a ++ b) := by
  show (⟨a.toArray ++ b.toArray⟩ : Str) = ⟨(a ++ b).toArray⟩
  simp
theorem mkS_length (a : List Nat) : (mkS a).length = a.length := by
  show a.toArray.size = a.length
  simp

section
variable {X : Cx}
abbrev rAddAll (K : PySem.W.Frag) : R2 := fun x y H Q => ((rI0 fun i j => .int (i + j)) x y H Q ∨ (∃ i j, x = .str i ∧ y = .str j ∧ i.length + j.length ≤ sizeLine ∧ Q (.str (i ++ j)) H)) ∨ rCat x y H Q ∨ rCatA K x y H Q
theorem op_addAll : OpR X (binaryOp .Add) (rAddAll X.K) := (op_add.or op_add_str).or (op_cat.or op_catA)
end
section
variable {K : PySem.W.Frag}
theorem k_add : Op2Ok K (rAddAll K) wAdd := by
  intro O G F σ H E x y dx dy Q Q' r hx hy q k
  unfold wAdd at q
  split at q
  · exact .inl (.inl ⟨_, _, hx.int, hy.int, k _ _ (.dat r (.int _) q)⟩)
  · rename_i a b
    refine .inl (.inr ⟨_, _, hx.str, hy.str, ?_, ?_⟩)
    · rw [mkS_length, mkS_length, line_eq]; exact q.1
    · rw [mkS_append]; exact k _ _ (.dat r (.str _) q.2)
  · obtain ⟨a, vs, rfl, h1, p1⟩ := hx.lst r.f
    obtain ⟨b, ws, rfl, h2, p2⟩ := hy.lst r.f
    refine .inr (.inl ⟨a, b, vs, ws, rfl, rfl, h1, h2, ?_, fun p hp => k _ _ (.lst r hp (p1.append p2) q.2)⟩)
    rw [p1.length, p2.length, line_eq]; exact q.1
  · obtain ⟨a, vs, rfl, h1, p1⟩ := hx.tup r.f
    obtain ⟨b, ws, rfl, h2, p2⟩ := hy.tup r.f
    refine .inr (.inr ⟨a, b, vs, ws, rfl, rfl, SqT.of h1, SqT.of h2, ?_, fun e => ?_, fun _ e => ?_, fun _ _ p hp => k _ _ (.tup r hp (p1.append p2) q.2)⟩)
    · rw [p1.length, p2.length, line_eq]; exact q.1
    · subst e
      cases p1
      rcases hy with hy | ⟨_, e, hy⟩
      · exact k _ _ (.dat r hy q.2)
      · exact hy.elim
    · subst e
      cases p2
      rw [List.append_nil] at q
      rcases hx with hx | ⟨_, e, hx⟩
      · exact k _ _ (.dat r hx q.2)
      · exact hx.elim
  · exact q.elim
theorem k_sub : Op2Ok K (rI0 fun i j => .int (i - j)) wSub := by
  intro O G F σ H E x y dx dy Q Q' r hx hy q k
  unfold wSub at q
  split at q
  · exact ⟨_, _, hx.int, hy.int, k _ _ (.dat r (.int _) q)⟩
  · exact q.elim
theorem op_mulA {X : Cx} : OpR X (binaryOp .Mult) (rI MulOk fun i j => .int (i * j)) := opI fun _ _ _ _ _ _ _ hc q => mul_int q (MulOk.ok hc)
theorem k_mul : Op2Ok K (rI MulOk fun i j => .int (i * j)) wMul := by
  intro O G F σ H E x y dx dy Q Q' r hx hy q k
  unfold wMul at q
  split at q
  · exact ⟨_, _, hx.int, hy.int, q.1, k _ _ (.dat r (.int _) q.2)⟩
  · exact q.elim
theorem k_mod : Op2Ok K (rI (fun _ j => 0 < j) fun i j => .int (i % j)) wMod := by
  intro O G F σ H E x y dx dy Q Q' r hx hy q k
  unfold wMod at q
  split at q
  · exact ⟨_, _, hx.int, hy.int, q.1, k _ _ (.dat r (.int _) q.2)⟩
  · exact q.elim
def CFd (_ j : Int) : Prop := 0 < j ∧ j.natAbs < 2 ^ 2000
theorem op_fdA {X : Cx} : OpR X (binaryOp .FloorDiv) (rI CFd fun i j => .int (i / j)) := opI fun i j _ _ _ _ _ hc q => by
  have h1 : (0 : Int) < j := hc.1
  exact floordiv_int (by omega) (by rw [Int.fdiv_eq_ediv_of_nonneg i (by omega)]; exact q) (.inl (PyProof.noPylong_of_log2 (wide_div (i := i) h1 hc.2 (by decide) (by decide)).2))
theorem k_fdiv : Op2Ok K (rI CFd fun i j => .int (i / j)) wFdiv := by
  intro O G F σ H E x y dx dy Q Q' r hx hy q k
  unfold wFdiv at q
  split at q
  · exact ⟨_, _, hx.int, hy.int, q.1, k _ _ (.dat r (.int _) q.2)⟩
  · exact q.elim
theorem k_pow : Op2Ok K (rI CPow fun i j => .int (i ^ j.toNat)) wPow := by
  intro O G F σ H E x y dx dy Q Q' r hx hy q k
  unfold wPow at q
  split at q
  · exact ⟨_, _, hx.int, hy.int, q.1, k _ _ (.dat r (.int _) q.2)⟩
  · exact q.elim
theorem k_shl : Op2Ok K (rI CPow fun i j => .int (i * 2 ^ j.toNat)) wShl := by
  intro O G F σ H E x y dx dy Q Q' r hx hy q k
  unfold wShl at q
  split at q
  · exact ⟨_, _, hx.int, hy.int, q.1, k _ _ (.dat r (.int _) q.2)⟩
  · exact q.elim
theorem k_band : Op2Ok K (rI0 fun i j => .int (Builtin.bitAnd i j)) wBand := by
  intro O G F σ H E x y dx dy Q Q' r hx hy q k
  unfold wBand at q
  split at q
  · exact ⟨_, _, hx.int, hy.int, k _ _ (.dat r (.int _) q)⟩
  · exact q.elim
theorem k_neg : Op1Ok K (rU fun i => .int (-i)) wNeg := by
  intro O G F σ H E x dx Q Q' r hx q k
  unfold wNeg at q
  split at q
  · exact ⟨_, hx.int, k _ _ (.dat r (.int _) q)⟩
  · exact q.elim
end

/-! ### comparisons -/
def okD (d : D) : Bool := SeqAt.shaped d.py
def eqD (x y : D) : Bool := PyData.eqv x.py y.py
/-- two texts, or data laid out -/
def eqOk (x y : D) : Prop := (∃ a b, x = .str a ∧ y = .str b) ∨ (okD x = true ∧ okD y = true)
def wEq (x y : D) (Q : B → Prop) : Prop := eqOk x y ∧ Q (.dat (.bl (eqD x y)))
def wNe (x y : D) (Q : B → Prop) : Prop := eqOk x y ∧ Q (.dat (.bl (!eqD x y)))
def wCmpI (p : Int → Int → Bool) : D → D → (B → Prop) → Prop
  | .int i, .int j, Q => Q (.dat (.bl (p i j)))
  | _, _, _ => False
def isNon : D → Bool
  | .non => true
  | _ => false
def wIsN (x y : D) (Q : B → Prop) : Prop := isNon y = true ∧ Q (.dat (.bl (isNon x)))
def wNotN (x y : D) (Q : B → Prop) : Prop := isNon y = true ∧ Q (.dat (.bl (!isNon x)))
section
variable {K : PySem.W.Frag}
theorem Rdb.dp {F H : Hp} {v : V} {d : D} (h : Rdb K F H v d) (s : Sub F H) (ok : okD d = true) : Dp K H v d.py := Rep.dp (SeqAt.canLay_of_shaped ok) (h.rep s)
theorem eqD_str (a b : List Nat) : eqD (.str a) (.str b) = decide (a = b) := by
  show PyData.eqv (.str (mkS a)) (.str (mkS b)) = _
  by_cases h : a = b
  · subst h; simp [PyData.eqv]
  · have : ¬ mkS a = mkS b := fun z => h (mkS_inj z)
    simp [PyData.eqv, h, this]
theorem decV_str (a b : List Nat) : decide (V.str (mkS a) = V.str (mkS b)) = eqD (.str a) (.str b) := by
  rw [eqD_str]
  by_cases h : a = b
  · subst h; simp
  · rw [decide_eq_false h, decide_eq_false]
    intro z
    injection z with z
    exact h (mkS_inj z)
abbrev rEqG (K : PySem.W.Frag) : R2 := fun x y H Q => (∃ a b, x = .str a ∧ y = .str b ∧ Q (.bl (decide (x = y))) H) ∨ rEqD K x y H Q
abbrev rNeG (K : PySem.W.Frag) : R2 := fun x y H Q => (∃ a b, x = .str a ∧ y = .str b ∧ Q (.bl (!decide (x = y))) H) ∨ rNeD K x y H Q
theorem op_eqG {X : Cx} (hu : X.A.units + 64 < cLine) : OpR X (compareOp .Eq) (rEqG X.K) := OpR.or (by
  intro pins s σ H x y v u Q I rx ry ⟨a, b, e1, e2, q⟩
  subst e1 e2
  exact op_eq pins s σ H _ _ v u Q I rx ry ⟨by first | trivial | rfl | simp [sameV], q⟩) (op_eqD hu)
theorem op_neG {X : Cx} (hu : X.A.units + 64 < cLine) : OpR X (compareOp .NotEq) (rNeG X.K) := OpR.or (by
  intro pins s σ H x y v u Q I rx ry ⟨a, b, e1, e2, q⟩
  subst e1 e2
  exact op_ne pins s σ H _ _ v u Q I rx ry ⟨by first | trivial | rfl | simp [sameV], q⟩) (op_neD hu)
theorem k_eq : Op2Ok K (rEqG K) wEq := by
  intro O G F σ H E x y dx dy Q Q' r hx hy ⟨ok, q⟩ k
  rcases ok with ⟨a, b, rfl, rfl⟩ | ⟨o1, o2⟩
  · have e1 := hx.str
    have e2 := hy.str
    subst e1 e2
    exact .inl ⟨_, _, rfl, rfl, by rw [decV_str]; exact k _ _ (.dat r (.bl _) q)⟩
  · exact .inr ⟨dx.py, dy.py, hx.dp r.f o1, hy.dp r.f o2, o1, o2, k _ _ (.dat r (.bl _) q)⟩
theorem k_ne : Op2Ok K (rNeG K) wNe := by
  intro O G F σ H E x y dx dy Q Q' r hx hy ⟨ok, q⟩ k
  rcases ok with ⟨a, b, rfl, rfl⟩ | ⟨o1, o2⟩
  · have e1 := hx.str
    have e2 := hy.str
    subst e1 e2
    exact .inl ⟨_, _, rfl, rfl, by rw [decV_str]; exact k _ _ (.dat r (.bl _) q)⟩
  · exact .inr ⟨dx.py, dy.py, hx.dp r.f o1, hy.dp r.f o2, o1, o2, k _ _ (.dat r (.bl _) q)⟩
theorem k_cmpI (p : Int → Int → Bool) : Op2Ok K (rI0 fun i j => .bl (p i j)) (wCmpI p) := by
  intro O G F σ H E x y dx dy Q Q' r hx hy q k
  unfold wCmpI at q
  split at q
  · exact ⟨_, _, hx.int, hy.int, k _ _ (.dat r (.bl _) q)⟩
  · exact q.elim
theorem Rdb.isNon {F H : Hp} {v : V} {d : D} (h : Rdb K F H v d) : decide (v = .non) = isNon d := by
  rcases h with h | ⟨a, e, h⟩
  · cases h <;> simp [PW.isNon]
  · subst e
    cases d <;> first | exact h.elim | simp [PW.isNon]
theorem isNon_eq {d : D} (h : isNon d = true) : d = .non := by cases d <;> first | rfl | cases h
theorem k_isN : Op2Ok K (fun x y H Q => y = .non ∧ Q (.bl (decide (x = .non))) H) wIsN := by
  intro O G F σ H E x y dx dy Q Q' r hx hy ⟨o1, q⟩ k
  have e := isNon_eq o1
  subst e
  exact ⟨hy.non, by rw [hx.isNon]; exact k _ _ (.dat r (.bl _) q)⟩
theorem k_notN : Op2Ok K (fun x y H Q => y = .non ∧ Q (.bl (!decide (x = .non))) H) wNotN := by
  intro O G F σ H E x y dx dy Q Q' r hx hy ⟨o1, q⟩ k
  have e := isNon_eq o1
  subst e
  exact ⟨hy.non, by rw [hx.isNon]; exact k _ _ (.dat r (.bl _) q)⟩
end

/-! ### dicts -/
def keyOk (t : Bool) : D → Bool
  | .int _ => !t
  | .str _ => !t
  | .tup l => t && l.all (fun d => match d with | .int _ => true | .str _ => true | _ => false)
  | _ => false
def lookD (kd : List (D × D)) (k : D) : Option D := (kd.find? fun p => eqD p.1 k).map (·.2)
def putD (kd : List (D × D)) (k v : D) : List (D × D) :=
  if (kd.any fun p => eqD p.1 k) = true then kd.map (fun p => if eqD p.1 k = true then (p.1, v) else p) else kd ++ [(k, v)]
def dropD (kd : List (D × D)) (k : D) : List (D × D) := kd.filter fun p => !eqD p.1 k
theorem eq_key (a b : Key) : eqD (kD a) (kD b) = decide (a = b) := by
  cases a with
  | inl i =>
    cases b with
    | inl j =>
      show PyData.eqv (D.py (.int i)) (D.py (.int j)) = _
      simp only [D.py, PyData.eqv, Sum.inl.injEq]
      rw [Bool.beq_eq_decide_eq]
    | inr y => simp [eqD, kD, D.py, PyData.eqv]
  | inr x =>
    cases b with
    | inl j => simp [eqD, kD, D.py, PyData.eqv]
    | inr y =>
      show PyData.eqv (D.py (.str x.cps.toList)) (D.py (.str y.cps.toList)) = _
      simp only [D.py, PyData.eqv, Sum.inr.injEq, mkS_of]
      rw [Bool.beq_eq_decide_eq]
theorem eq_keys (a b : List Key) : eqD (.tup (a.map kD)) (.tup (b.map kD)) = decide (a = b) := by
  show PyData.eqv (D.py (.tup (a.map kD))) (D.py (.tup (b.map kD))) = _
  simp only [D.py, PyData.eqv]
  induction a generalizing b with
  | nil => cases b <;> simp [D.pys, PyData.eqvAll]
  | cons x a ih =>
    cases b with
    | nil => simp [D.pys, PyData.eqvAll]
    | cons y b =>
      have e := eq_key x y
      simp only [eqD] at e
      simp only [List.map_cons, D.pys, PyData.eqvAll, e, ih b, List.cons.injEq, Bool.decide_and]
section
variable {K : PySem.W.Frag} {F : Hp}
theorem RepK.look : ∀ {kv : List (Key × V)} {kd : List (D × D)}, RepK K F kv kd → ∀ k : Key, (valV kv k = none ∧ lookD kd (kD k) = none) ∨ ∃ v d, valV kv k = some v ∧ lookD kd (kD k) = some d ∧ Rep K F v d
  | _, _, .nil, k => .inl ⟨rfl, rfl⟩
  | _, _, .cons (k := k0) (v := v0) (d := d0) h r, k => by
    by_cases e : k0 = k
    · refine .inr ⟨v0, d0, valV_pos e, ?_, h⟩
      have e2 : eqD (kD k0) (kD k) = true := by rw [eq_key]; exact decide_eq_true e
      simp only [lookD, List.find?_cons, e2, Option.map_some]
    · have e2 : eqD (kD k0) (kD k) = false := by rw [eq_key]; exact decide_eq_false e
      have h2 := RepK.look r k
      rw [valV_neg (p := (k0, v0)) e]
      simpa only [lookD, List.find?_cons, e2] using h2
theorem RepT.look : ∀ {kv : List (List Key × V)} {kd : List (D × D)}, RepT K F kv kd → ∀ k : List Key, (valV kv k = none ∧ lookD kd (.tup (k.map kD)) = none) ∨ ∃ v d, valV kv k = some v ∧ lookD kd (.tup (k.map kD)) = some d ∧ Rep K F v d
  | _, _, .nil, k => .inl ⟨rfl, rfl⟩
  | _, _, .cons (k := k0) (v := v0) (d := d0) h r, k => by
    by_cases e : k0 = k
    · refine .inr ⟨v0, d0, valV_pos e, ?_, h⟩
      have e2 : eqD (.tup (k0.map kD)) (.tup (k.map kD)) = true := by rw [eq_keys]; exact decide_eq_true e
      simp only [lookD, List.find?_cons, e2, Option.map_some]
    · have e2 : eqD (.tup (k0.map kD)) (.tup (k.map kD)) = false := by rw [eq_keys]; exact decide_eq_false e
      have h2 := RepT.look r k
      rw [valV_neg (p := (k0, v0)) e]
      simpa only [lookD, List.find?_cons, e2] using h2
theorem RepK.length : ∀ {kv : List (Key × V)} {kd : List (D × D)}, RepK K F kv kd → kv.length = kd.length
  | _, _, .nil => rfl
  | _, _, .cons h r => by simp [RepK.length r]
theorem RepT.length : ∀ {kv : List (List Key × V)} {kd : List (D × D)}, RepT K F kv kd → kv.length = kd.length
  | _, _, .nil => rfl
  | _, _, .cons h r => by simp [RepT.length r]
theorem RepK.append : ∀ {kv kv' : List (Key × V)} {kd kd' : List (D × D)}, RepK K F kv kd → RepK K F kv' kd' → RepK K F (kv ++ kv') (kd ++ kd')
  | _, _, _, _, .nil, s => s
  | _, _, _, _, .cons h r, s => .cons h (RepK.append r s)
theorem RepT.append : ∀ {kv kv' : List (List Key × V)} {kd kd' : List (D × D)}, RepT K F kv kd → RepT K F kv' kd' → RepT K F (kv ++ kv') (kd ++ kd')
  | _, _, _, _, .nil, s => s
  | _, _, _, _, .cons h r, s => .cons h (RepT.append r s)
theorem RepK.any : ∀ {kv : List (Key × V)} {kd : List (D × D)}, RepK K F kv kd → ∀ k : Key, (kv.any fun p => decide (p.1 = k)) = kd.any fun p => eqD p.1 (kD k)
  | _, _, .nil, k => rfl
  | _, _, .cons h r, k => by simp only [List.any_cons, eq_key, RepK.any r k]
theorem RepT.any : ∀ {kv : List (List Key × V)} {kd : List (D × D)}, RepT K F kv kd → ∀ k : List Key, (kv.any fun p => decide (p.1 = k)) = kd.any fun p => eqD p.1 (.tup (k.map kD))
  | _, _, .nil, k => rfl
  | _, _, .cons h r, k => by simp only [List.any_cons, eq_keys, RepT.any r k]
theorem RepK.mapPut {v : V} {d : D} (hv : Rep K F v d) (k : Key) : ∀ {kv : List (Key × V)} {kd : List (D × D)}, RepK K F kv kd →
    RepK K F (kv.map fun p => if p.1 = k then (p.1, v) else p) (kd.map fun p => if eqD p.1 (kD k) = true then (p.1, d) else p)
  | _, _, .nil => .nil
  | _, _, .cons (k := k0) h r => by
    simp only [List.map_cons, eq_key, decide_eq_true_eq]
    by_cases e : k0 = k
    · rw [if_pos e, if_pos e]; exact .cons hv (RepK.mapPut hv k r)
    · rw [if_neg e, if_neg e]; exact .cons h (RepK.mapPut hv k r)
theorem RepT.mapPut {v : V} {d : D} (hv : Rep K F v d) (k : List Key) : ∀ {kv : List (List Key × V)} {kd : List (D × D)}, RepT K F kv kd →
    RepT K F (kv.map fun p => if p.1 = k then (p.1, v) else p) (kd.map fun p => if eqD p.1 (.tup (k.map kD)) = true then (p.1, d) else p)
  | _, _, .nil => .nil
  | _, _, .cons (k := k0) h r => by
    simp only [List.map_cons, eq_keys, decide_eq_true_eq]
    by_cases e : k0 = k
    · rw [if_pos e, if_pos e]; exact .cons hv (RepT.mapPut hv k r)
    · rw [if_neg e, if_neg e]; exact .cons h (RepT.mapPut hv k r)
theorem RepK.put {v : V} {d : D} (hv : Rep K F v d) (k : Key) {kv : List (Key × V)} {kd : List (D × D)} (r : RepK K F kv kd) : RepK K F (putK kv k v) (putD kd (kD k) d) := by
  unfold putK putD
  rw [r.any k]
  split
  · exact r.mapPut hv k
  · exact r.append (.cons hv .nil)
theorem RepT.put {v : V} {d : D} (hv : Rep K F v d) (k : List Key) {kv : List (List Key × V)} {kd : List (D × D)} (r : RepT K F kv kd) : RepT K F (putK kv k v) (putD kd (.tup (k.map kD)) d) := by
  unfold putK putD
  rw [r.any k]
  split
  · exact r.mapPut hv k
  · exact r.append (.cons hv .nil)
theorem RepK.drop (k : Key) : ∀ {kv : List (Key × V)} {kd : List (D × D)}, RepK K F kv kd → RepK K F (dropK kv k) (dropD kd (kD k))
  | _, _, .nil => .nil
  | _, _, .cons (k := k0) h r => by
    have ih := RepK.drop k r
    unfold dropK dropD at ih ⊢
    simp only [List.filter_cons, eq_key]
    by_cases e : k0 = k
    · simpa [e, eq_key] using ih
    · simp only [e, ne_eq, not_false_eq_true, decide_true, decide_false, Bool.not_false, if_true]
      refine .cons h ?_
      simpa [eq_key] using ih
/-- a key's value -/
theorem Rep.key {v : V} {d : D} (h : Rep K F v d) (ok : keyOk false d = true) : ∃ k : Key, d = kD k ∧ v = kV k := by
  cases h with
  | int i => exact ⟨.inl i, rfl, rfl⟩
  | str l => exact ⟨.inr (mkS l), by simp [kD, mkS], rfl⟩
  | _ => cases ok
theorem RepL.keys : ∀ {vs : List V} {ds : List D}, RepL K F vs ds → (ds.all (fun d => match d with | .int _ => true | .str _ => true | _ => false)) = true → ∃ ks : List Key, ds = ks.map kD ∧ vs = ks.map kV
  | _, _, .nil, _ => ⟨[], rfl, rfl⟩
  | _, _, .cons h r, ok => by
    rw [List.all_cons, Bool.and_eq_true] at ok
    obtain ⟨ks, e1, e2⟩ := RepL.keys r ok.2
    obtain ⟨k, e3, e4⟩ := Rep.key (d := _) h (by
      have := ok.1
      revert this
      cases h <;> simp [keyOk])
    exact ⟨k :: ks, by rw [e1, e3]; rfl, by rw [e2, e4]; rfl⟩
theorem Rep.keyT {v : V} {d : D} (h : Rep K F v d) (ok : keyOk true d = true) : ∃ (ks : List Key) (b : Addr), d = .tup (ks.map kD) ∧ v = .ref b ∧ F b = some (.tup (ks.map kV)) := by
  cases h with
  | tup e r =>
    obtain ⟨ks, e1, e2⟩ := r.keys (by simpa [keyOk] using ok)
    exact ⟨ks, _, by rw [e1], rfl, by rw [e, e2]⟩
  | _ => cases ok
theorem Rep.dget {H : Hp} {v y : V} {kd : List (D × D)} {t : Bool} {d : D} (h : Rep K H v (.dct t kd)) (hy : Rep K H y d) (ok : keyOk t d = true) :
    ∃ a, v = .ref a ∧ ∃ o, DGet H a y o ∧ ((o = none ∧ lookD kd d = none) ∨ ∃ w e, o = some w ∧ lookD kd d = some e ∧ Rep K H w e) := by
  cases h with
  | dK e r =>
    obtain ⟨k, e1, e2⟩ := hy.key ok
    subst e1 e2
    refine ⟨_, rfl, _, .inl ⟨_, k, e, rfl, rfl⟩, ?_⟩
    rcases r.look k with ⟨h1, h2⟩ | ⟨w, x, h1, h2, h3⟩
    · exact .inl ⟨h1, h2⟩
    · exact .inr ⟨w, x, h1, h2, h3⟩
  | dT e r =>
    obtain ⟨k, b, e1, e2, e3⟩ := hy.keyT ok
    subst e1 e2
    refine ⟨_, rfl, _, .inr ⟨_, k, b, e, rfl, e3, rfl⟩, ?_⟩
    rcases r.look k with ⟨h1, h2⟩ | ⟨w, x, h1, h2, h3⟩
    · exact .inl ⟨h1, h2⟩
    · exact .inr ⟨w, x, h1, h2, h3⟩
end
end PW

set_option Elab.async false
set_option linter.all false
set_option autoImplicit false
set_option maxRecDepth 100000
set_option maxHeartbeats 4000000
namespace PW
open PySem PySem.Spec PyProof.Rows L2

/-! ### an item -/
def lenOk : D → Prop
  | .str s => s.length ≤ 16777216
  | _ => True
def idxD : D → D → Option D
  | .lst l, .int i => atI l i
  | .tup l, .int i => atI l i
  | .str s, .int i => (atI s i).map fun c => .str [c]
  | .scr ns, .int i => (atI ns i).map .int
  | .dct t kd, k => if keyOk t k = true then lookD kd k else none
  | _, _ => none
def wIx (x y : D) (Q : B → Prop) : Prop := lenOk x ∧ ∃ d, idxD x y = some d ∧ Q (.dat d)

theorem atI_map {α β : Type} (f : α → β) (xs : List α) (i : Int) : atI (xs.map f) i = (atI xs i).map f := by
  unfold atI
  rw [List.length_map]
  cases ixN xs.length i with
  | none => rfl
  | some j => simp
theorem RepL.atI {K : PySem.W.Frag} {F : Hp} {vs : List V} {ds : List D} {i : Int} {d : D} (r : RepL K F vs ds) (h : L2.atI ds i = some d) : ∃ v, L2.atI vs i = some v ∧ Rep K F v d := by
  unfold L2.atI at h ⊢
  rw [r.length]
  cases e : ixN ds.length i with
  | none => rw [e] at h; cases h
  | some j =>
    rw [e] at h
    exact r.get h
theorem Rdb.keyRep {K : PySem.W.Frag} {F H : Hp} {y : V} {d : D} {t : Bool} (hy : Rdb K F H y d) (ok : keyOk t d = true) : Rep K F y d := by
  rcases hy with hy | ⟨a, e, c⟩
  · exact hy
  · cases d with
    | lst l => cases ok
    | dct t l => cases ok
    | _ => exact c.elim
theorem Rdb.dget {K : PySem.W.Frag} {F H : Hp} {v y : V} {t : Bool} {kd : List (D × D)} {d : D} (hx : Rdb K F H v (.dct t kd)) (hy : Rdb K F H y d) (s : Sub F H) (ok : keyOk t d = true) :
    ∃ a, v = .ref a ∧ ∃ o, DGet H a y o ∧ ((o = none ∧ lookD kd d = none) ∨ ∃ w e, o = some w ∧ lookD kd d = some e ∧ Rep K F w e) := by
  have hy := hy.keyRep ok
  cases t with
  | false =>
    obtain ⟨a, kv, ea, h, r⟩ := hx.dK s
    obtain ⟨k, e1, e2⟩ := hy.key ok
    subst e1 e2
    exact ⟨a, ea, _, .inl ⟨kv, k, h, rfl, rfl⟩, r.look k⟩
  | true =>
    obtain ⟨a, kv, ea, h, r⟩ := hx.dT s
    obtain ⟨k, b, e1, e2, e3⟩ := hy.keyT ok
    subst e1 e2
    exact ⟨a, ea, _, .inr ⟨kv, k, b, h, rfl, s.tup e3, rfl⟩, r.look k⟩
section
variable {X : Cx}
abbrev rIxD0 : R2 := fun x y H Q => ∃ a v, x = .ref a ∧ DGet H a y (some v) ∧ Q v H
theorem ix_dict (hu : X.A.units + 1 < cLine) : IxR X rIxD0 := by
  intro value slice pins s σ H x y v u Q I rx ry h hs
  obtain ⟨a, w, rfl, g, q⟩ := h
  cases rx
  exact tail_any (dict_typeIs I g) PySem.F.slot_dict_getitem.lookup (d_getItem hu I g ry fun w' s3 I3 rw' => ⟨w, H, I3, rw', q⟩) hs
abbrev rIxAll (K : PySem.W.Frag) : R2 := fun x y H Q => rIx K x y H Q ∨ rIxD0 x y H Q
theorem ix_all (hu : X.A.units + 1 < cLine) : IxR X (rIxAll X.K) := ix_seq.or (ix_dict hu)
end
section
variable {K : PySem.W.Frag}
theorem k_ix : Op2Ok K (rIxAll K) wIx := by
  intro O G F σ H E x y dx dy Q Q' r hx hy ⟨lo, d, e, q⟩ k
  unfold idxD at e
  split at e
  · obtain ⟨a, vs, rfl, h1, p1⟩ := hx.lst r.f
    obtain ⟨v, h2, p2⟩ := p1.atI e
    exact .inl (.inl ⟨a, vs, _, v, rfl, hy.int, SqL.of h1, h2, k _ _ (.dat r p2 q)⟩)
  · obtain ⟨a, vs, rfl, h1, p1⟩ := hx.tup r.f
    obtain ⟨v, h2, p2⟩ := p1.atI e
    exact .inl (.inr (.inl ⟨a, vs, _, v, rfl, hy.int, SqT.of h1, h2, k _ _ (.dat r p2 q)⟩))
  · rename_i s i
    obtain ⟨c, h2, e2⟩ := Option.map_eq_some_iff.mp e
    subst e2
    refine .inl (.inr (.inr ⟨mkS s, _, c, hx.str, hy.int, ?_, ?_, k _ _ (.dat r (.str [c]) q)⟩))
    · rw [mkS_length, line_eq]; exact lo
    · simpa [mkS] using h2
  · rename_i ns i
    obtain ⟨n, h2, e2⟩ := Option.map_eq_some_iff.mp e
    subst e2
    obtain ⟨a, rfl, h1⟩ := hx.scr r.f
    exact .inl (.inl ⟨a, _, _, .int n, rfl, hy.int, h1, by rw [atI_map, h2]; rfl, k _ _ (.dat r (.int n) q)⟩)
  · rename_i t kd
    split at e
    · rename_i ok
      obtain ⟨a, ea, o, g, ho⟩ := hx.dget hy r.f ok
      rcases ho with ⟨h1, h2⟩ | ⟨w, e2, h1, h2, h3⟩
      · rw [h2] at e; cases e
      · rw [h2] at e; cases e
        subst h1
        exact .inr ⟨a, w, ea, g, k _ _ (.dat r h3 q)⟩
    · cases e
  · cases e
end
end PW

set_option Elab.async false
set_option linter.all false
set_option autoImplicit false
set_option maxRecDepth 100000
set_option maxHeartbeats 4000000
namespace PW
open PySem PySem.Spec PyProof.Rows L2

/-! ### in, not in -/
def flatD : D → Bool
  | .int _ => true | .str _ => true | .bl _ => true | .non => true | _ => false
def anyD (x : D) (l : List D) : Bool := l.any fun z => eqD z x
def inOk : D → D → Prop
  | x, .lst l => (flatD x = true ∧ l.all flatD = true) ∨ (okD x = true ∧ okD (.lst l) = true)
  | x, .tup l => flatD x = true ∧ l.all flatD = true
  | .str [_], .str _ => True
  | x, .dct t _ => keyOk t x = true
  | _, _ => False
def inD : D → D → Bool
  | x, .lst l => anyD x l
  | x, .tup l => anyD x l
  | .str [c], .str s => decide (c ∈ s)
  | x, .dct _ kd => (lookD kd x).isSome
  | _, _ => false
def wIn (x y : D) (Q : B → Prop) : Prop := inOk x y ∧ Q (.dat (.bl (inD x y)))
def wNin (x y : D) (Q : B → Prop) : Prop := inOk x y ∧ Q (.dat (.bl (!inD x y)))
theorem pys_any (x : D) : ∀ l : List D, ((D.pys l).any fun z => PyData.eqv z x.py) = anyD x l
  | [] => rfl
  | d :: l => by
    simp only [D.pys, List.any_cons, anyD, pys_any x l, eqD]
section
variable {K : PySem.W.Frag} {F H : Hp}
theorem Rep.flatV {v : V} {d : D} (h : Rep K F v d) (f : flatD d = true) : L2.flatV v = true := by
  cases h <;> first | rfl | cases f
theorem RepL.flatV : ∀ {vs : List V} {ds : List D}, RepL K F vs ds → ds.all flatD = true → vs.all L2.flatV = true
  | _, _, .nil, _ => rfl
  | _, _, .cons h r, f => by
    rw [List.all_cons, Bool.and_eq_true] at f ⊢
    exact ⟨h.flatV f.1, RepL.flatV r f.2⟩
theorem Rep.eqV {v w : V} {d e : D} (h : Rep K F v d) (g : Rep K F w e) (f : flatD d = true) (f' : flatD e = true) : L2.eqV v w = eqD d e := by
  cases h <;> cases g <;> first | cases f | cases f' | skip
  all_goals (simp [L2.eqV, eqD, D.py, PyData.eqv]) <;> first | rfl | skip
theorem RepL.inV {v : V} {d : D} (h : Rep K F v d) (f : flatD d = true) : ∀ {vs : List V} {ds : List D}, RepL K F vs ds → ds.all flatD = true → L2.inV v vs = anyD d ds
  | _, _, .nil, _ => rfl
  | _, _, .cons h' r, f' => by
    rw [List.all_cons, Bool.and_eq_true] at f'
    have ih := RepL.inV h f r f'.2
    unfold L2.inV anyD at ih ⊢
    rw [List.any_cons, List.any_cons, h'.eqV h f'.1 f, ih]
end
section
variable {X : Cx}
theorem op_inDict (hu : X.A.units + 1 < cLine) : OpR X (compareOp .In) (fun x y H Q => ∃ a o, y = .ref a ∧ DGet H a x o ∧ Q (.bl o.isSome) H) := by
  intro pins s σ H x y v u Q I rx ry h
  obtain ⟨a, o, rfl, g, q⟩ := h
  cases ry
  exact d_in hu I g rx fun s3 I3 => ⟨.bl o.isSome, H, I3, rfl, q⟩
theorem op_ninDict (hu : X.A.units + 1 < cLine) : OpR X (compareOp .NotIn) (fun x y H Q => ∃ a o, y = .ref a ∧ DGet H a x o ∧ Q (.bl (!o.isSome)) H) := by
  intro pins s σ H x y v u Q I rx ry h
  obtain ⟨a, o, rfl, g, q⟩ := h
  cases ry
  exact d_notIn hu I g rx fun s3 I3 => ⟨.bl (!o.isSome), H, I3, rfl, q⟩
abbrev rInAll (K : PySem.W.Frag) : R2 := fun x y H Q => (rInD K x y H Q ∨ rIn K false x y H Q) ∨ rInS x y H Q ∨ ∃ a o, y = .ref a ∧ DGet H a x o ∧ Q (.bl o.isSome) H
abbrev rNinAll (K : PySem.W.Frag) : R2 := fun x y H Q => (rNotInD K x y H Q ∨ rIn K true x y H Q) ∨ rNotInS x y H Q ∨ ∃ a o, y = .ref a ∧ DGet H a x o ∧ Q (.bl (!o.isSome)) H
theorem op_inAll (hu : X.A.units + 65 < cLine) : OpR X (compareOp .In) (rInAll X.K) := ((op_inD hu).or op_in_seq).or (op_inS.or (op_inDict (by omega)))
theorem op_ninAll (hu : X.A.units + 65 < cLine) : OpR X (compareOp .NotIn) (rNinAll X.K) := ((op_notInD hu).or op_notIn_seq).or (op_notInS.or (op_ninDict (by omega)))
end
section
variable {K : PySem.W.Frag}
theorem Rdb.flat {F H : Hp} {v : V} {d : D} (h : Rdb K F H v d) (f : flatD d = true) : Rep K F v d := by
  rcases h with h | ⟨a, e, c⟩
  · exact h
  · cases d with
    | lst l => cases f
    | dct t l => cases f
    | _ => exact c.elim
theorem k_in : Op2Ok K (rInAll K) wIn := by
  intro O G F σ H E x y dx dy Q Q' r hx hy ⟨ok, q⟩ k
  cases dy with
  | lst l =>
    simp only [inOk, inD] at ok q
    rcases ok with ok | ok
    · obtain ⟨a, vs, rfl, h1, p1⟩ := hy.lst r.f
      refine .inl (.inr ⟨a, vs, rfl, .inl (SqL.of h1), (hx.flat ok.1).flatV ok.1, p1.flatV ok.2, ?_⟩)
      rw [if_neg Bool.false_ne_true, p1.inV (hx.flat ok.1) ok.1 ok.2]
      exact k _ _ (.dat r (.bl _) q)
    · have h := hy.dp r.f ok.2
      simp only [D.py] at h
      exact .inl (.inl ⟨dx.py, _, hx.dp r.f ok.1, h, ok.1, by simpa only [okD, D.py] using ok.2, by rw [pys_any]; exact k _ _ (.dat r (.bl _) q)⟩)
  | tup l =>
    simp only [inOk, inD] at ok q
    obtain ⟨a, vs, rfl, h1, p1⟩ := hy.tup r.f
    refine .inl (.inr ⟨a, vs, rfl, .inr (SqT.of h1), (hx.flat ok.1).flatV ok.1, p1.flatV ok.2, ?_⟩)
    rw [if_neg Bool.false_ne_true, p1.inV (hx.flat ok.1) ok.1 ok.2]
    exact k _ _ (.dat r (.bl _) q)
  | str s =>
    unfold inOk at ok
    split at ok
    · rename_i e; cases e
    · rename_i e; cases e
    · rename_i c s' e
      cases e
      simp only [inD] at q
      refine .inr (.inl ⟨c, mkS s, hx.str, hy.str, ?_⟩)
      have e : (mkS s).cps.toList = s := by simp [mkS]
      rw [e]
      exact k _ _ (.dat r (.bl _) q)
    · rename_i e; cases e
    · exact ok.elim
  | dct t kd =>
    simp only [inOk, inD] at ok q
    obtain ⟨a, ea, o, g, ho⟩ := hy.dget hx r.f ok
    refine .inr (.inr ⟨a, o, ea, g, ?_⟩)
    have e : o.isSome = (lookD kd dx).isSome := by
      rcases ho with ⟨h1, h2⟩ | ⟨w, e2, h1, h2, _⟩ <;> rw [h1, h2] <;> rfl
    rw [e]
    exact k _ _ (.dat r (.bl _) q)
  | _ => simp only [inOk] at ok
theorem k_nin : Op2Ok K (rNinAll K) wNin := by
  intro O G F σ H E x y dx dy Q Q' r hx hy ⟨ok, q⟩ k
  cases dy with
  | lst l =>
    simp only [inOk, inD] at ok q
    rcases ok with ok | ok
    · obtain ⟨a, vs, rfl, h1, p1⟩ := hy.lst r.f
      refine .inl (.inr ⟨a, vs, rfl, .inl (SqL.of h1), (hx.flat ok.1).flatV ok.1, p1.flatV ok.2, ?_⟩)
      rw [if_pos rfl, p1.inV (hx.flat ok.1) ok.1 ok.2]
      exact k _ _ (.dat r (.bl _) q)
    · have h := hy.dp r.f ok.2
      simp only [D.py] at h
      exact .inl (.inl ⟨dx.py, _, hx.dp r.f ok.1, h, ok.1, by simpa only [okD, D.py] using ok.2, by rw [pys_any]; exact k _ _ (.dat r (.bl _) q)⟩)
  | tup l =>
    simp only [inOk, inD] at ok q
    obtain ⟨a, vs, rfl, h1, p1⟩ := hy.tup r.f
    refine .inl (.inr ⟨a, vs, rfl, .inr (SqT.of h1), (hx.flat ok.1).flatV ok.1, p1.flatV ok.2, ?_⟩)
    rw [if_pos rfl, p1.inV (hx.flat ok.1) ok.1 ok.2]
    exact k _ _ (.dat r (.bl _) q)
  | str s =>
    unfold inOk at ok
    split at ok
    · rename_i e; cases e
    · rename_i e; cases e
    · rename_i c s' e
      cases e
      simp only [inD] at q
      refine .inr (.inl ⟨c, mkS s, hx.str, hy.str, ?_⟩)
      have e : (mkS s).cps.toList = s := by simp [mkS]
      rw [e]
      exact k _ _ (.dat r (.bl _) q)
    · rename_i e; cases e
    · exact ok.elim
  | dct t kd =>
    simp only [inOk, inD] at ok q
    obtain ⟨a, ea, o, g, ho⟩ := hy.dget hx r.f ok
    refine .inr (.inr ⟨a, o, ea, g, ?_⟩)
    have e : o.isSome = (lookD kd dx).isSome := by
      rcases ho with ⟨h1, h2⟩ | ⟨w, e2, h1, h2, _⟩ <;> rw [h1, h2] <;> rfl
    rw [e]
    exact k _ _ (.dat r (.bl _) q)
  | _ => simp only [inOk] at ok
end

/-! ### slices -/
def cut {α : Type} (l : List α) (lo hi : Option Int) : List α := (l.drop (HT.sIx l.length 0 lo)).take (HT.sIx l.length l.length hi - HT.sIx l.length 0 lo)
def wSl : D → Option Int → Option Int → (B → Prop) → Prop
  | .lst l, lo, hi, Q => Q (.own (.lst (cut l lo hi)))
  | .tup l, lo, hi, Q => Q (.dat (.tup (cut l lo hi)))
  | .str l, lo, hi, Q => l.length ≤ 16777216 ∧ Q (.dat (.str (cut l lo hi)))
  | _, _, _, _ => False
abbrev WP := En → (Option Int → En → Prop) → Prop
def pN : WP := fun E Q => Q none E
def pS (w : WE) : WP := fun E Q => w E fun b E1 => match b with
  | .dat (.int i) => Q (some i) E1
  | _ => False
def wSlice (wo : WO) (lo hi : WP) : WE := fun E Q => wo E fun o E1 => lo E1 fun l E2 => hi E2 fun h E3 => match o.get E3 with
  | some d => wSl d l h fun b => Q b E3
  | _ => False
def tP (K : PySem.W.Frag) (w : WP) : TO := fun σ H Q => ∃ O G F E Q', R K O G F σ H E ∧ w E Q' ∧ ∀ o H' F' E', Sub F F' → R K O G F' σ H' E' → Q' o E' → Q o H'
theorem tP_bind {K : PySem.W.Frag} {w : WP} {O G F : Hp} {σ : L2.St} {H : Hp} {E : En} {Q : Option Int → Hp → Prop} {P : Option Int → En → Prop} (r : R K O G F σ H E) (h : w E P) (k : ∀ o H' F' E', Sub F F' → R K O G F' σ H' E' → P o E' → Q o H') : tP K w σ H Q := ⟨O, G, F, E, P, r, h, k⟩
abbrev PD (X : Cx) (e : Option Expr) (w : WP) : Prop := PO X e (tP X.K w)
section
variable {X : Cx} {e : Expr} {lo hi : Option Expr} {pos p2 : Pos}
theorem pd_of {e : Option Expr} {t : TO} {w : WP} (h : PO X e t) (k : ∀ O G F σ H E (Q : Option Int → En → Prop), R X.K O G F σ H E → w E Q → t σ H fun o H' => ∃ F' E', Sub F F' ∧ R X.K O G F' σ H' E' ∧ Q o E') : PD X e w := ⟨fun pins s σ H Q I hq => by
  obtain ⟨O, G, F, E, Q', r, hw, kk⟩ := hq
  refine thn (h.run pins s σ H _ I (k O G F σ H E Q' r hw)) fun u s' hu => ?_
  obtain ⟨o, H', I', ro, F', E', sb, r', q⟩ := hu
  exact ⟨o, H', I', ro, kk o H' F' E' sb r' q⟩⟩
theorem pd_n : PD X none pN := pd_of po_none fun O G F σ H E Q r q => ⟨F, E, Sub.refl F, r, q⟩
theorem pd_s {w : WE} (h : ED X e w) : PD X (some e) (pS w) := pd_of (po_some h) fun O G F σ H E Q r q => by
  refine tE_bind r q fun v H1 F1 E1 b s1 r1 p1 q1 => ?_
  split at q1
  · rename_i i
    have p := p1.1
    have e : v = .int i := by cases p; rfl
    exact ⟨i, e, F1, E1, s1, r1, q1⟩
  · exact q1.elim
abbrev rSlAll (K : PySem.W.Frag) : V → Option Int → Option Int → Hp → VK → Prop := fun x lo hi H Q => rSlL K x lo hi H Q ∨ rSlA K x lo hi H Q ∨ rSlS x lo hi H Q
theorem sl_all : SlR X (rSlAll X.K) := sl_list.or (sl_tupA.or sl_str)
theorem RepL.cut {K : PySem.W.Frag} {F : Hp} {vs : List V} {ds : List D} (r : RepL K F vs ds) (lo hi : Option Int) : RepL K F (cutV vs lo hi) (PW.cut ds lo hi) := by
  unfold cutV PW.cut
  rw [r.length]
  exact (r.drop _).take _
theorem ed_slice {wo : WO} {wl wh : WP} (he : OD X e wo) (hl : PD X lo wl) (hu : PD X hi wh) : ED X (.Subscript e (.Slice lo hi none p2) pos) (wSlice wo wl wh) := by
  refine ed_of (pe_slice sl_all he hl hu) fun O G F σ H E Q r q => ?_
  refine tO_bind r q fun x H1 F1 E1 o s1 r1 p1 q1 => ?_
  refine tP_bind r1 q1 fun l H2 F2 E2 s2 r2 q2 => ?_
  refine tP_bind r2 q2 fun h H3 F3 E3 s3 r3 q3 => ?_
  split at q3
  · rename_i d eo
    have hx := r3.rdb ((p1.mono s2).mono s3) eo
    have fin : ∀ v H', OutB X.K O G F3 σ E3 (fun b => Q b E3) v H' → ∃ F' E' b, Sub F F' ∧ R X.K O G F' σ H' E' ∧ RR X.K O F' σ H' E' v b ∧ Q b E' := fun v H' ⟨F', b, s4, r4, p4, q4⟩ => ⟨F', E3, b, ((s1.trans s2).trans s3).trans s4, r4, p4, q4⟩
    cases d with
    | lst ds =>
      obtain ⟨a, vs, rfl, h1, p⟩ := hx.lst r3.f
      exact .inl ⟨a, vs, rfl, SqL.of h1, fun p' hp => fin _ _ (.lst r3 hp (p.cut l h) q3)⟩
    | tup tl =>
      have hx' := hx
      obtain ⟨a, vs, rfl, h1, p⟩ := hx.tup r3.f
      refine .inr (.inl ⟨a, vs, rfl, SqT.of h1, fun z => ?_, fun _ p' hp => fin _ _ (.tup r3 hp (p.cut l h) q3)⟩)
      have ec : PW.cut tl l h = tl := by
        unfold PW.cut
        rw [← p.length, z.1, z.2, List.drop_zero, Nat.sub_zero, p.length, List.take_length]
      have q4 : Q (.dat (.tup (PW.cut tl l h))) E3 := q3
      rw [ec] at q4
      rcases hx' with hx' | ⟨_, _, c⟩
      · exact fin _ _ (.dat r3 hx' q4)
      · exact c.elim
    | str tl =>
      refine .inr (.inr ⟨mkS tl, hx.str, by rw [mkS_length, line_eq]; exact q3.1, ?_⟩)
      have ec : cutS (mkS tl) l h = mkS (PW.cut tl l h) := by
        unfold cutS PW.cut
        rw [mkS_length]
      rw [ec]
      exact fin _ _ (.dat r3 (.str _) q3.2)
    | _ => exact (show False from q3).elim
  · exact q3.elim
/-- xs[::-1] -/
def wRev : D → (B → Prop) → Prop
  | .lst l, Q => Q (.own (.lst l.reverse))
  | _, _ => False
theorem ed_rev {k : Nat} {p1 p2 p3 pos : Pos} {wo : WO} (he : OD X e wo) : ED X (.Subscript e (.Slice none none (some (.UnaryOp .USub (.Constant (.int 1) k p1) p2)) p3) pos) (wUn wRev wo) := by
  refine ed_of (pe_revL he) (ok_un (r := fun x H Q => ∃ a xs, x = .ref a ∧ SqL X.K H a xs ∧ ∀ p, H p = none → Q (.ref p) (upd H p (.lst xs.reverse))) ?_)
  intro O G F σ H E x dx Q Q' r hx q k
  unfold wRev at q
  split at q
  · obtain ⟨a, vs, rfl, h1, p⟩ := hx.lst r.f
    exact ⟨a, vs, rfl, SqL.of h1, fun p' hp => k _ _ (.lst r hp p.reverse q)⟩
  · exact q.elim
theorem ed_ix {a b : Expr} {wa wb : WO} (hu : X.A.units + 1 < cLine) (ha : OD X a wa) (hb : OD X b wb) (hs : PlainIx b) : ED X (.Subscript a b pos) (wOp wIx wa wb) := ed_of (pe_ix (ix_all hu) ha hb hs) (ok_op k_ix)
end
end PW

set_option Elab.async false
set_option linter.all false
set_option autoImplicit false
set_option maxRecDepth 100000
set_option maxHeartbeats 4000000
namespace PW
open PySem PySem.Spec PyProof.Rows L2

/-! ### calls of built-in functions -/
def wLen : D → (B → Prop) → Prop
  | .lst l, Q => Q (.dat (.int l.length))
  | .tup l, Q => Q (.dat (.int l.length))
  | .str l, Q => l.length ≤ 16777216 ∧ Q (.dat (.int l.length))
  | .dct _ l, Q => Q (.dat (.int l.length))
  | .scr l, Q => Q (.dat (.int l.length))
  | _, _ => False
def wInt : D → (B → Prop) → Prop
  | .int i, Q => Q (.dat (.int i))
  | .bl b, Q => Q (.dat (.int (if b = true then 1 else 0)))
  | _, _ => False
def wStr : D → (B → Prop) → Prop
  | .int i, Q => i.natAbs.log2 < 1920 ∧ Q (.dat (.str (toString i : Str).cps.toList))
  | .str s, Q => Q (.dat (.str s))
  | _, _ => False
def wMax2 : D → D → (B → Prop) → Prop
  | .int i, .int j, Q => Q (.dat (.int (max i j)))
  | _, _, _ => False
def wMin2 : D → D → (B → Prop) → Prop
  | .int i, .int j, Q => Q (.dat (.int (min i j)))
  | _, _, _ => False
def wSum : D → (B → Prop) → Prop
  | .lst l, Q => ∃ ns : List Int, l = ns.map .int ∧ Q (.dat (.int ns.sum))
  | _, _ => False
def wAll : D → (B → Prop) → Prop
  | .lst l, Q => ∃ ns : List Bool, l = ns.map .bl ∧ Q (.dat (.bl (ns.all id)))
  | _, _ => False
def wAny : D → (B → Prop) → Prop
  | .lst l, Q => ∃ ns : List Bool, l = ns.map .bl ∧ Q (.dat (.bl (ns.any id)))
  | _, _ => False
def wMax : D → (B → Prop) → Prop
  | .lst l, Q => ∃ ns : List Int, l = ns.map .int ∧ 0 < ns.length ∧ ∀ m, m ∈ ns → (∀ y, y ∈ ns → y ≤ m) → Q (.dat (.int m))
  | _, _ => False
def wMin : D → (B → Prop) → Prop
  | .lst l, Q => ∃ ns : List Int, l = ns.map .int ∧ 0 < ns.length ∧ ∀ m, m ∈ ns → (∀ y, y ∈ ns → m ≤ y) → Q (.dat (.int m))
  | _, _ => False
def wList : D → (B → Prop) → Prop
  | .lst l, Q => Q (.own (.lst l))
  | .tup l, Q => Q (.own (.lst l))
  | _, _ => False
def wTuple : D → (B → Prop) → Prop
  | .lst l, Q => Q (.dat (.tup l))
  | .tup l, Q => Q (.dat (.tup l))
  | _, _ => False
section
variable {X : Cx} {e e2 : Expr} {pos p : Pos} {x : Str} {id T : String}
theorem ed_call1 {r : List V → Hp → VK → Prop} {wr : D → (B → Prop) → Prop} {wo : WO} (hc : CallR X (.builtin id) r) (hk : Op1Ok X.K (fun x H Q => r [x] H Q) wr) (hg : Gl X x) (hm : X.mg x = none) (hv : bootBuiltins x = some (.builtin id)) (ha : OD X e wo)
    (hn : x ≠ "__name__" := by decide) (hdb : (x == ("__debug__" : Str)) = false := by decide) (hs : starEach [e] X.env = (false, eval e X.env) :: starEach [] X.env := by rfl) : ED X (.Call (.Name x p) [e] [] pos) (wUn wr wo) :=
  ed_of (pe_callB hc hg hm hv (pa_cons ha pa_nil hs) hn hdb hs) (ok_un hk)
theorem ed_callT1 {r : List V → Hp → VK → Prop} {wr : D → (B → Prop) → Prop} {wo : WO} (hc : CallR X (.type T) r) (hk : Op1Ok X.K (fun x H Q => r [x] H Q) wr) (hg : Gl X x) (hm : X.mg x = none) (hv : bootBuiltins x = some (.type T)) (ha : OD X e wo)
    (hn : x ≠ "__name__" := by decide) (hdb : (x == ("__debug__" : Str)) = false := by decide) (hs : starEach [e] X.env = (false, eval e X.env) :: starEach [] X.env := by rfl) : ED X (.Call (.Name x p) [e] [] pos) (wUn wr wo) :=
  ed_of (pe_callTy hc hg hm hv (pa_cons ha pa_nil hs) hn hdb hs) (ok_un hk)
theorem ed_call2 {r : List V → Hp → VK → Prop} {wr : D → D → (B → Prop) → Prop} {wa wb : WO} (hc : CallR X (.builtin id) r) (hk : Op2Ok X.K (fun x y H Q => r [x, y] H Q) wr) (hg : Gl X x) (hm : X.mg x = none) (hv : bootBuiltins x = some (.builtin id)) (ha : OD X e wa) (hb : OD X e2 wb)
    (hn : x ≠ "__name__" := by decide) (hdb : (x == ("__debug__" : Str)) = false := by decide) (hs : starEach [e, e2] X.env = (false, eval e X.env) :: starEach [e2] X.env := by rfl) (hs2 : starEach [e2] X.env = (false, eval e2 X.env) :: starEach [] X.env := by rfl)
    (hpl : (backTo pos (starEach [e2] X.env)).any (·.1) = false := by rfl) : ED X (.Call (.Name x p) [e, e2] [] pos) (wOp wr wa wb) :=
  ed_of (pe_callB hc hg hm hv (pa_cons ha (pa_cons hb pa_nil hs2) hs) hn hdb hs hpl) (ok_op hk)
end
section
variable {K : PySem.W.Frag} {X : Cx}
abbrev rLenAll (K : PySem.W.Frag) : List V → Hp → VK → Prop := fun xs H Q => (∃ x n, xs = [x] ∧ LenV K x H n ∧ Q (.int n) H) ∨ ∃ a n, xs = [.ref a] ∧ ((∃ kv, Rd H a (.dK kv) ∧ n = kv.length) ∨ ∃ kv, Rd H a (.dT kv) ∧ n = kv.length) ∧ Q (.int (n : Nat)) H
theorem call_lenAll : CallR X (.builtin "len") (rLenAll X.K) := by
  intro pins s σ H xs us Q I r h
  rcases h with h | ⟨a, n, rfl, hd, q⟩
  · exact call_len pins s σ H xs us Q I r h
  · obtain ⟨u, rfl, ru⟩ := vals1 r
    cases ru
    rcases hd with ⟨kv, hd, e⟩ | ⟨kv, hd, e⟩
    · subst e
      exact d_len I hd fun t s' I' => ⟨.int kv.length, H, I', ⟨t, rfl⟩, q⟩
    · subst e
      obtain ⟨hz, hS, xs, rel, dd⟩ := dt_rd I.hok hd
      have hlen : kv.length = xs.length := Paired.length rel
      have hl := line63
      refine call_len_dictH hS dd (by rw [← hlen]; rw [sizeLine_eq] at hz; omega) ?_
      exact ⟨.int kv.length, H, (I.tok _).tok _, ⟨_, by rw [hlen]⟩, q⟩
theorem k_len : Op1Ok K (fun x H Q => rLenAll K [x] H Q) wLen := by
  intro O G F σ H E x dx Q Q' r hx q k
  cases dx with
  | lst l =>
    obtain ⟨a, vs, rfl, h1, p⟩ := hx.lst r.f
    refine .inl ⟨_, l.length, rfl, .inl ⟨vs, SqL.of h1, p.length.symm⟩, k _ _ (.dat r (.int _) q)⟩
  | tup l =>
    obtain ⟨a, vs, rfl, h1, p⟩ := hx.tup r.f
    refine .inl ⟨_, l.length, rfl, .inr ⟨vs, SqT.of h1, p.length.symm⟩, k _ _ (.dat r (.int _) q)⟩
  | scr l =>
    obtain ⟨a, rfl, h1⟩ := hx.scr r.f
    refine .inl ⟨_, l.length, rfl, .inl ⟨_, h1, by simp⟩, k _ _ (.dat r (.int _) q)⟩
  | str l =>
    have e := hx.str
    subst e
    refine .inl ⟨_, l.length, rfl, ⟨by rw [mkS_length, line_eq]; exact q.1, (mkS_length l).symm⟩, k _ _ (.dat r (.int _) q.2)⟩
  | dct t l =>
    cases t with
    | false =>
      obtain ⟨a, kv, rfl, h1, p⟩ := hx.dK r.f
      exact .inr ⟨a, l.length, rfl, .inl ⟨kv, h1, p.length.symm⟩, k _ _ (.dat r (.int _) q)⟩
    | true =>
      obtain ⟨a, kv, rfl, h1, p⟩ := hx.dT r.f
      exact .inr ⟨a, l.length, rfl, .inr ⟨kv, h1, p.length.symm⟩, k _ _ (.dat r (.int _) q)⟩
  | _ => exact (show False from q).elim
theorem k_int : Op1Ok K (fun x H Q => (∃ i, [x] = [V.int i] ∧ Q (.int i) H) ∨ ∃ k, [x] = [V.bl k] ∧ Q (.int (if k = true then 1 else 0)) H) wInt := by
  intro O G F σ H E x dx Q Q' r hx q k
  cases dx with
  | int i =>
    have e := hx.int
    subst e
    exact .inl ⟨i, rfl, k _ _ (.dat r (.int _) q)⟩
  | bl b =>
    have e := hx.bl
    subst e
    exact .inr ⟨b, rfl, k _ _ (.dat r (.int _) q)⟩
  | _ => exact (show False from q).elim
theorem max_if (i j : Int) : (if j > i then j else i) = max i j := by
  by_cases h : j > i
  · rw [if_pos h, Int.max_eq_right (by omega)]
  · rw [if_neg h, Int.max_eq_left (by omega)]
theorem min_if (i j : Int) : (if j < i then j else i) = min i j := by
  by_cases h : j < i
  · rw [if_pos h, Int.min_eq_right (by omega)]
  · rw [if_neg h, Int.min_eq_left (by omega)]
theorem k_max2 : Op2Ok K (fun x y H Q => ∃ i j, [x, y] = [V.int i, V.int j] ∧ Q (.int (if j > i then j else i)) H) wMax2 := by
  intro O G F σ H E x y dx dy Q Q' r hx hy q k
  unfold wMax2 at q
  split at q
  · rename_i i j
    have e := hx.int
    have e' := hy.int
    subst e e'
    exact ⟨i, j, rfl, by rw [max_if]; exact k _ _ (.dat r (.int _) q)⟩
  · exact q.elim
theorem k_min2 : Op2Ok K (fun x y H Q => ∃ i j, [x, y] = [V.int i, V.int j] ∧ Q (.int (if j < i then j else i)) H) wMin2 := by
  intro O G F σ H E x y dx dy Q Q' r hx hy q k
  unfold wMin2 at q
  split at q
  · rename_i i j
    have e := hx.int
    have e' := hy.int
    subst e e'
    exact ⟨i, j, rfl, by rw [min_if]; exact k _ _ (.dat r (.int _) q)⟩
  · exact q.elim
theorem k_sum : Op1Ok K (fun x H Q => rSum K [x] H Q) wSum := by
  intro O G F σ H E x dx Q Q' r hx q k
  cases dx with
  | lst l =>
    obtain ⟨ns, e, q⟩ := q
    subst e
    obtain ⟨a, vs, rfl, h1, p⟩ := hx.lst r.f
    have ev := p.ints
    subst ev
    exact ⟨a, ns, rfl, SqL.of h1, k _ _ (.dat r (.int _) q)⟩
  | _ => exact (show False from q).elim
theorem k_all : Op1Ok K (fun x H Q => rAll K [x] H Q) wAll := by
  intro O G F σ H E x dx Q Q' r hx q k
  cases dx with
  | lst l =>
    obtain ⟨ns, e, q⟩ := q
    subst e
    obtain ⟨a, vs, rfl, h1, p⟩ := hx.lst r.f
    have ev := p.bools
    subst ev
    exact ⟨a, ns, rfl, SqL.of h1, k _ _ (.dat r (.bl _) q)⟩
  | _ => exact (show False from q).elim
theorem k_any : Op1Ok K (fun x H Q => rAny K [x] H Q) wAny := by
  intro O G F σ H E x dx Q Q' r hx q k
  cases dx with
  | lst l =>
    obtain ⟨ns, e, q⟩ := q
    subst e
    obtain ⟨a, vs, rfl, h1, p⟩ := hx.lst r.f
    have ev := p.bools
    subst ev
    exact ⟨a, ns, rfl, SqL.of h1, k _ _ (.dat r (.bl _) q)⟩
  | _ => exact (show False from q).elim
theorem k_max : Op1Ok K (fun x H Q => rMax K [x] H Q) wMax := by
  intro O G F σ H E x dx Q Q' r hx q k
  cases dx with
  | lst l =>
    obtain ⟨ns, e, h0, q⟩ := q
    subst e
    obtain ⟨a, vs, rfl, h1, p⟩ := hx.lst r.f
    have ev := p.ints
    subst ev
    exact ⟨a, ns, rfl, SqL.of h1, h0, fun m hm hle => k _ _ (.dat r (.int _) (q m hm hle))⟩
  | _ => exact (show False from q).elim
theorem k_min : Op1Ok K (fun x H Q => rMin K [x] H Q) wMin := by
  intro O G F σ H E x dx Q Q' r hx q k
  cases dx with
  | lst l =>
    obtain ⟨ns, e, h0, q⟩ := q
    subst e
    obtain ⟨a, vs, rfl, h1, p⟩ := hx.lst r.f
    have ev := p.ints
    subst ev
    exact ⟨a, ns, rfl, SqL.of h1, h0, fun m hm hle => k _ _ (.dat r (.int _) (q m hm hle))⟩
  | _ => exact (show False from q).elim
theorem k_list : Op1Ok K (fun x H Q => ∃ p ys, [x] = [V.ref p] ∧ (SqL K H p ys ∨ SqT K H p ys) ∧ ∀ l, H l = none → Q (.ref l) (upd H l (.lst ys))) wList := by
  intro O G F σ H E x dx Q Q' r hx q k
  cases dx with
  | lst l =>
    obtain ⟨a, vs, rfl, h1, p⟩ := hx.lst r.f
    exact ⟨a, vs, rfl, .inl (SqL.of h1), fun c hc => k _ _ (.lst r hc p q)⟩
  | tup l =>
    obtain ⟨a, vs, rfl, h1, p⟩ := hx.tup r.f
    exact ⟨a, vs, rfl, .inr (SqT.of h1), fun c hc => k _ _ (.lst r hc p q)⟩
  | _ => exact (show False from q).elim
theorem k_tuple : Op1Ok K (fun x H Q => ∃ p ys, [x] = [V.ref p] ∧ ((SqL K H p ys ∧ ∀ l, H l = none → Q (.ref l) (upd H l (.tup ys))) ∨ (SqT K H p ys ∧ Q (.ref p) H))) wTuple := by
  intro O G F σ H E x dx Q Q' r hx q k
  cases dx with
  | lst l =>
    obtain ⟨a, vs, rfl, h1, p⟩ := hx.lst r.f
    exact ⟨a, vs, rfl, .inl ⟨SqL.of h1, fun c hc => k _ _ (.tup r hc p q)⟩⟩
  | tup l =>
    have hx' := hx
    obtain ⟨a, vs, rfl, h1, p⟩ := hx.tup r.f
    rcases hx' with hx' | ⟨_, _, c⟩
    · exact ⟨a, vs, rfl, .inr ⟨SqT.of h1, k _ _ (.dat r hx' q)⟩⟩
    · exact c.elim
  | _ => exact (show False from q).elim
end

/-! ### statements -/
structure EndP where
  nx : En → Prop
  rt : B → En → Prop
  bk : En → Prop := fun _ => False
  ct : En → Prop := fun _ => False
abbrev WS := EndP → En → Prop
structure EndOk (K : PySem.W.Frag) (O G : Hp) (D : Ends) (D' : EndP) : Prop where
  nx : ∀ F σ H E, R K O G F σ H E → D'.nx E → D.nx σ H
  rt : ∀ F σ H E v b, R K O G F σ H E → RR K O F σ H E v b → D'.rt b E → D.rt v H
  bk : ∀ F σ H E, R K O G F σ H E → D'.bk E → D.bk σ H
  ct : ∀ F σ H E, R K O G F σ H E → D'.ct E → D.ct σ H
def SOk (K : PySem.W.Frag) (t : TS) (w : WS) : Prop := ∀ O G F σ H E D D', EndOk K O G D D' → R K O G F σ H E → w D' E → t D σ H
def tS (K : PySem.W.Frag) (w : WS) : TS := fun D σ H => ∃ O G F E D', EndOk K O G D D' ∧ R K O G F σ H E ∧ w D' E
theorem tS_ok {K : PySem.W.Frag} {w : WS} : SOk K (tS K w) w := fun O G F σ H E D D' e r h => ⟨O, G, F, E, D', e, r, h⟩
abbrev SD (X : Cx) (st : Stmt) (w : WS) : Prop := PS X st (tS X.K w)
abbrev BD (X : Cx) (sts : List Stmt) (w : WS) : Prop := PSs X sts (tS X.K w)
theorem sd_of {X : Cx} {st : Stmt} {t : TS} {w : WS} (h : PS X st t) (k : SOk X.K t w) : SD X st w := ⟨fun pins s σ H D I ⟨O, G, F, E, D', e, r, hw⟩ => h.run pins s σ H D I (k O G F σ H E D D' e r hw)⟩
theorem bd_of {X : Cx} {st : List Stmt} {t : TS} {w : WS} (h : PSs X st t) (k : SOk X.K t w) : BD X st w := ⟨fun pins s σ H D I ⟨O, G, F, E, D', e, r, hw⟩ => h.run pins s σ H D I (k O G F σ H E D D' e r hw)⟩

def sNext : WS := fun D E => D.nx E
def sBreak : WS := fun D E => D.bk E
def sCont : WS := fun D E => D.ct E
def sSeq (a b : WS) : WS := fun D E => a { D with nx := b D } E
def sIf (t : WT) (a b : WS) : WS := fun D E => t E fun k E1 => if k = true then a D E1 else b D E1
def sSet (i : Nat) (w : WE) : WS := fun D E => w E fun b E1 => D.nx (E1.set i (some b))
def sRet (w : WE) : WS := fun D E => w E D.rt
def sRetN : WS := fun D E => D.rt (.dat .non) E
def sExpr (w : WE) : WS := fun D E => w E fun _ E1 => D.nx E1
def sNever : WS := fun _ _ => False

section
variable {X : Cx} {st : Stmt} {rest : List Stmt} {pos : Pos} {e c : Expr}
theorem EndOk.up {K : PySem.W.Frag} {O G F : Hp} {D : Ends} {D' : EndP} (h : EndOk K O G D D') (s : Sub G F) : EndOk K O F D D' :=
  ⟨fun F' σ H E r => h.nx F' σ H E ⟨s.trans r.g, r.f, r.o, r.len, r.at_, r.nd⟩, fun F' σ H E v b r => h.rt F' σ H E v b ⟨s.trans r.g, r.f, r.o, r.len, r.at_, r.nd⟩,
    fun F' σ H E r => h.bk F' σ H E ⟨s.trans r.g, r.f, r.o, r.len, r.at_, r.nd⟩, fun F' σ H E r => h.ct F' σ H E ⟨s.trans r.g, r.f, r.o, r.len, r.at_, r.nd⟩⟩
theorem bd_nil : BD X [] sNext := bd_of pss_nil fun O G F σ H E D D' e r h => e.nx _ _ _ _ r h
theorem bd_cons {a b : WS} (h1 : SD X st a) (h2 : BD X rest b) : BD X (st :: rest) (sSeq a b) := bd_of (pss_cons h1 h2) fun O G F σ H E D D' e r h =>
  ⟨O, G, F, E, { D' with nx := b D' }, ⟨fun F' σ' H' E' r' h' => ⟨O, G, F', E', D', e, r', h'⟩, e.rt, e.bk, e.ct⟩, r, h⟩
theorem bd_one {a : WS} (h1 : SD X st a) : BD X [st] a := ⟨(pss_one h1).run⟩
theorem sd_pass : SD X (.Pass pos) sNext := sd_of ps_pass fun O G F σ H E D D' e r h => e.nx _ _ _ _ r h
theorem sd_break : SD X (.Break pos) sBreak := sd_of ps_break fun O G F σ H E D D' e r h => e.bk _ _ _ _ r h
theorem sd_cont : SD X (.Continue pos) sCont := sd_of ps_continue fun O G F σ H E D D' e r h => e.ct _ _ _ _ r h
theorem sd_doc {x j pos pos'} : SD X (.Expr (.Constant (.str x) j pos) pos') sNext := sd_of ps_doc fun O G F σ H E D D' e r h => e.nx _ _ _ _ r h
theorem sd_expr {w : WE} (he : ED X e w) (hs : swapsWith e none pos.line X.env = pure false := by rfl) : SD X (.Expr e pos) (sExpr w) := sd_of (ps_expr he hs) fun O G F σ H E D D' en r h =>
  tE_bind r h fun v H' F' E' b s r' p q => en.nx _ _ _ _ r' q
theorem sd_ret {w : WE} (he : ED X e w) : SD X (.Return (some e) pos) (sRet w) := sd_of (ps_ret he) fun O G F σ H E D D' en r h =>
  tE_bind r h fun v H' F' E' b s r' p q => en.rt _ _ _ _ _ _ r' p q
theorem sd_retN : SD X (.Return none pos) sRetN := sd_of ps_retN fun O G F σ H E D D' en r h => en.rt _ _ _ _ _ _ r (datRR .non) h
theorem sd_if {a b : List Stmt} {t : WT} {wa wb : WS} (hc : TD X c t) (ha : BD X a wa) (hb : BD X b wb) : SD X (.If c a b pos) (sIf t wa wb) := sd_of (ps_if hc ha hb) fun O G F σ H E D D' en r h => by
  refine tT_bind r h fun b H1 F1 E1 s1 r1 q1 => ?_
  cases b with
  | true => exact ⟨O, G, F1, E1, D', en, r1, q1⟩
  | false => exact ⟨O, G, F1, E1, D', en, r1, q1⟩
theorem sd_set {i : Nat} {x : Str} {w : WE} {pos' : Pos} (hN : X.N.Nodup) (hi : X.N[i]? = some x) (hx : Loc X.env.scope x) (he : ED X e w) (hs : swapsWith e (some (.Name x pos')) pos.line X.env = pure false := by rfl) (hf : X.fn x = true ∨ X.env.scope.names.lookup x = some .local := by first | exact .inl rfl | exact .inr rfl | assumption) :
    SD X (.Assign [.Name x pos'] e pos) (sSet i w) := sd_of (ps_set hN hi hx he hs hf) fun O G F σ H E D D' en r h =>
  tE_bind r h fun v H' F' E' b s r' p q => en.nx _ _ _ _ (r'.set i p) q
theorem sd_never : SD X st sNever := sd_of ps_never fun O G F σ H E D D' en r h => h.elim
theorem bd_never {sts : List Stmt} : BD X sts sNever := bd_of pss_never fun O G F σ H E D D' en r h => h.elim

/-! ### while -/
/-- W: what holds ahead of each turn, with a number that falls -/
def sWhile (t : WT) (a : WS) : WS := fun D E => ∃ W : Nat → En → Prop, (∃ m, W m E) ∧ ∀ m E, W m E → t E fun b E1 => if b = true then
  a { D with nx := fun E' => ∃ m', m' < m ∧ W m' E', ct := fun E' => ∃ m', m' < m ∧ W m' E', bk := D.nx } E1 else D.nx E1
theorem sd_while {body : List Stmt} {t : WT} {a : WS} (hp : PassesOwn (model X.prog X.w) X.A X.env X.xe) (hc : TD X c t) (hb : BD X body a) : SD X (.While c body [] pos) (sWhile t a) := sd_of (ps_while hp hc hb) fun O G F σ H E D D' en r ⟨W, ⟨m0, w0⟩, turn⟩ => by
  refine ⟨fun m σ H => ∃ F E, R X.K O G F σ H E ∧ W m E, ⟨m0, F, E, r, w0⟩, fun m σ H ⟨F, E, r, w⟩ => ?_⟩
  refine tT_bind r (turn m E w) fun b H1 F1 E1 s1 r1 q1 => ?_
  cases b with
  | false => exact en.nx _ _ _ _ r1 q1
  | true =>
    refine ⟨fun σ' H' => ∃ m', m' < m ∧ ∃ F E, R X.K O G F σ' H' E ∧ W m' E, fun σ' H' ⟨m', l, h⟩ => ⟨m', l, h⟩, O, G, F1, E1, { D' with nx := fun E' => ∃ m', m' < m ∧ W m' E', ct := fun E' => ∃ m', m' < m ∧ W m' E', bk := D'.nx }, ⟨?_, en.rt, ?_, ?_⟩, r1, q1⟩
    · rintro F' σ' H' E' r' ⟨m', l, w'⟩
      exact ⟨m', l, F', E', r', w'⟩
    · intro F' σ' H' E' r' w'
      exact en.nx _ _ _ _ r' w'
    · rintro F' σ' H' E' r' ⟨m', l, w'⟩
      exact ⟨m', l, F', E', r', w'⟩
end

/-! ### functions -/
abbrev FS := List D → (B → Prop) → Prop
abbrev PFS := D → List D → (B → D → Prop) → Prop
def spF (K : PySem.W.Frag) (fs : FS) : Sp := fun vs H Q _ => ∃ G ds P, Sub G H ∧ RepL K G vs ds ∧ fs ds P ∧
  ∀ b v F' H', P b → Sub G F' → Sub F' H' → (∀ a u, G a = none → H a = some u → H' a = some u ∧ (F' a = none ∨ isTup u = true)) → RB K H F' H' v b → Q v H'
/-- the first argument a list or dict of the caller's that may change -/
def spP (K : PySem.W.Frag) (fs : PFS) : Sp := fun vs H Q _ => ∃ G p d ws ds P, vs = .ref p :: ws ∧ G p = none ∧ Sub G H ∧ Cell K G H p d ∧ RepL K G ws ds ∧ fs d ds P ∧
  ∀ b d' v F' H', P b d' → Sub G F' → Sub F' H' → (∀ a u, a ≠ p → G a = none → H a = some u → H' a = some u ∧ (F' a = none ∨ isTup u = true)) → F' p = none → Cell K F' H' p d' → RB K H F' H' v b → Q v H'
def wCall (fs : FS) (a : WA) : WE := fun E Q => a E fun ds E1 => fs ds fun b => Q b E1
def hasE (E : En) (i : Nat) : Prop := match E[i]? with
  | some (some _) => True
  | _ => False
def wCallP (i : Nat) (fs : PFS) (a : WA) : WE := fun E Q => hasE E i ∧ a E fun ds E1 => match E1[i]? with
  | some (some b) => b.mu = true ∧ fs b.d ds fun c d' => Q c (E1.set i (some (b.put d')))
  | _ => False
theorem hasE_of {E : En} {i : Nat} (h : hasE E i) : ∃ b, E[i]? = some (some b) := by
  unfold hasE at h
  split at h
  · rename_i b e; exact ⟨b, e⟩
  · exact h.elim
section
variable {K : PySem.W.Frag} {O G F : Hp} {σ : L2.St} {H : Hp} {E : En}
theorem RB.toO {O' F' H' : Hp} {v : V} {b : B} (q : RB K O F' H' v b) (h : ∀ a, ownA v b = some a → O' a = none) : RB K O' F' H' v b := by
  cases b with
  | dat d => exact q
  | own d => obtain ⟨a, e, n, o, c⟩ := q; subst e; exact ⟨a, rfl, n, h a rfl, c⟩
  | par a d => obtain ⟨e, n, o, c⟩ := q; subst e; exact ⟨rfl, n, h a rfl, c⟩
theorem call_core {F1 : Hp} {fs : FS} {vs : List V} {ds : List D} {Ex : XK} {Q : B → En → Prop} (s1 : Sub F F1) (r1 : R K O G F1 σ H E) (p1 : RepL K F1 vs ds) (q1 : fs ds fun b => Q b E) :
    spF K fs vs H (fun v H' => ∃ F' E' b, Sub F F' ∧ R K O G F' σ H' E' ∧ RR K O F' σ H' E' v b ∧ Q b E') Ex := by
  refine ⟨F1, ds, _, r1.f, p1, q1, fun b v F' H' hq s2 f2 k q => ?_⟩
  refine ⟨F', E, b, s1.trans s2, r1.step s2 f2 (fun c u e => ?_) (fun c w => ?_), ⟨q.toO fun c e => r1.oNone ?_, fun c e => r1.notOwned ?_⟩, hq⟩
  · rcases (r1.o c u e).2 with z | z
    · exact k c u z (r1.o c u e).1
    · cases hF : F1 c with
      | none => exact k c u hF (r1.o c u e).1
      | some x =>
        rcases r1.f c x hF with e2 | ⟨_, o, e2⟩
        · rw [(r1.o c u e).1] at e2; cases e2
          refine ⟨?_, .inr z⟩
          cases u <;> first | exact f2.tup (s2.tup hF) | cases z
        · rw [(r1.o c u e).1] at e2; cases e2; cases z
  · obtain ⟨n, _, u, e, t⟩ := r1.owned w
    obtain ⟨h1, h2⟩ := k c u n e
    rcases h2 with h2 | h2
    · exact ⟨h2, h1.trans e.symm⟩
    · rw [t] at h2; cases h2
  · exact (q.own e).2.2.1
  · exact (q.own e).2.2.1
theorem ok_call {fs : FS} {a : WA} {Ex : XK} : EOk K (tCall (spF K fs) [] Ex (tA K a)) (wCall fs a) := fun O G F σ H E Q r q => by
  refine tA_bind r q fun vs H1 F1 E1 ds s1 r1 p1 q1 => ?_
  rw [List.append_nil]
  exact call_core s1 r1 p1 q1
theorem ok_call0 {fs : FS} {Ex : XK} : EOk K (tCall (spF K fs) [] Ex tNil) (wCall fs aN) := fun O G F σ H E Q r q => by
  show spF K fs ([] ++ []) H _ Ex
  exact call_core (Sub.refl F) r .nil q
theorem Owned.back {i : Nat} {b b' : B} {a : Addr} (h1 : E[i]? = some (some b)) (hb : ∀ v, ownA v b' = some a → ownA v b = some a) (h : Owned σ (E.set i (some b')) a) : Owned σ E a := by
  obtain ⟨j, c, w, e1, e2, e3⟩ := h
  rcases getset e1 with ⟨e, e', _⟩ | ⟨_, e1⟩
  · cases e'
    subst e
    exact ⟨j, b, w, h1, e2, hb w e3⟩
  · exact ⟨j, c, w, e1, e2, e3⟩
theorem ownA_put {v : V} {b : B} {d : D} {a : Addr} (h : ownA v (b.put d) = some a) : ownA v b = some a := by
  cases b <;> cases v <;> first | exact h | cases h
/-- behind a callee that may have changed the cell in slot i -/
theorem R.after {i : Nat} {b : B} {p : Addr} {d : D} {F' H' : Hp} (r : R K O G F σ H E) (h1 : E[i]? = some (some b)) (h2 : σ[i]? = some (some (.ref p))) (h3 : ownA (.ref p) b = some p) (s : Sub F F') (f : Sub F' H')
    (k : ∀ a u, a ≠ p → F a = none → H a = some u → H' a = some u ∧ (F' a = none ∨ isTup u = true)) (n : F' p = none) (c : Cell K F' H' p d) : R K O G F' σ H' (E.set i (some (b.put d))) := by
  have hp := r.owned ⟨i, b, _, h1, h2, h3⟩
  refine ⟨r.g.trans s, f, fun a u e => ?_, by rw [List.length_set]; exact r.len, fun j x e => ?_, fun j l a bj bl v w e1 e2 e3 e4 e5 e6 => ?_⟩
  · have z : a ≠ p := fun z => by subst z; rw [hp.2.1] at e; cases e
    rcases (r.o a u e).2 with y | y
    · exact k a u z y (r.o a u e).1
    · cases hF : F a with
      | none => exact k a u z hF (r.o a u e).1
      | some x =>
        rcases r.f a x hF with e2 | ⟨_, o, e2⟩
        · rw [(r.o a u e).1] at e2; cases e2
          refine ⟨?_, .inr y⟩
          cases u <;> first | exact f.tup (s.tup hF) | cases y
        · rw [(r.o a u e).1] at e2; cases e2; cases y
  · rcases getset e with ⟨ej, e', _⟩ | ⟨ne, e⟩
    · subst ej
      cases e'
      refine ⟨_, h2, ?_⟩
      cases b with
      | dat d => cases h3
      | own d0 => exact ⟨p, rfl, n, hp.2.1, c⟩
      | par a0 d0 =>
        obtain ⟨v', e2, q⟩ := r.at_ _ _ h1
        rw [h2] at e2; cases e2
        obtain ⟨e3, _⟩ := q
        cases e3
        exact ⟨rfl, n, hp.2.1, c⟩
    · obtain ⟨w, e2, q⟩ := r.at_ j x e
      refine ⟨w, e2, q.mono s fun a ha => ?_⟩
      have z : a ≠ p := fun z => by subst z; exact ne (r.nd j i a x b w _ e h1 e2 h2 ha h3)
      obtain ⟨n1, _, u, hu, t⟩ := r.owned ⟨j, x, w, e, e2, ha⟩
      obtain ⟨k1, k2⟩ := k a u z n1 hu
      rcases k2 with k2 | k2
      · exact ⟨k2, k1.trans hu.symm⟩
      · rw [t] at k2; cases k2
  · have back : ∀ {j : Nat} {x : B} {v : V}, (E.set i (some (b.put d)))[j]? = some (some x) → σ[j]? = some (some v) → ownA v x = some a → ∃ y, E[j]? = some (some y) ∧ ownA v y = some a := fun {j x v} e1 e2 e3 => by
      rcases getset e1 with ⟨ej, e', _⟩ | ⟨_, e⟩
      · subst ej
        cases e'
        exact ⟨b, h1, ownA_put e3⟩
      · exact ⟨x, e, e3⟩
    obtain ⟨y1, g1, g2⟩ := back e1 e3 e5
    obtain ⟨y2, g3, g4⟩ := back e2 e4 e6
    exact r.nd j l a y1 y2 v w g1 g3 e3 e4 g2 g4
theorem ok_callP {i : Nat} {fs : PFS} {a : WA} {Ex : XK} : EOk K (tCall (spP K fs) [] Ex (tCons (tVar i) (tA K a))) (wCallP i fs a) := fun O G F σ H E Q r q => by
  obtain ⟨hi, q⟩ := q
  obtain ⟨b0, hb0⟩ := hasE_of hi
  obtain ⟨v, hv, _⟩ := r.at_ i b0 hb0
  refine ⟨v, hv, ?_⟩
  refine tA_bind r q fun vs H1 F1 E1 ds s1 r1 p1 q1 => ?_
  show spP K fs ((v :: vs) ++ []) H1 _ Ex
  rw [List.append_nil]
  split at q1
  · rename_i b hb
    obtain ⟨hm, q1⟩ := q1
    obtain ⟨v', hv', qb⟩ := r1.at_ i b hb
    rw [hv] at hv'; cases hv'
    have ho : ∃ p, ownA v b = some p := by
      cases b with
      | dat d => cases hm
      | own d => obtain ⟨p, e, _⟩ := qb; subst e; exact ⟨p, rfl⟩
      | par p d => obtain ⟨e, _⟩ := qb; subst e; exact ⟨p, rfl⟩
    obtain ⟨p, ho⟩ := ho
    obtain ⟨e, n, o, c⟩ := qb.own ho
    subst e
    refine ⟨F1, p, b.d, vs, ds, _, rfl, n, r1.f, c, p1, q1, fun x d' w F' H' hq s2 f2 k n2 c2 q2 => ?_⟩
    refine ⟨F', _, x, s1.trans s2, r1.after hb hv ho s2 f2 k n2 c2, ⟨q2.toO fun a e => r1.oNone (q2.own e).2.2.1, fun a e w => ?_⟩, hq⟩
    have hn := (q2.own e).2.2.1
    obtain ⟨j, y, z, e1, e2, e3⟩ := w
    refine r1.notOwned hn ?_
    rcases getset e1 with ⟨ej, e', _⟩ | ⟨_, e1⟩
    · cases e'
      subst ej
      exact ⟨_, b, z, hb, e2, ownA_put e3⟩
    · exact ⟨j, y, z, e1, e2, e3⟩
  · exact q1.elim
end

/-! ### calls, over the text -/
section
variable {X : Cx} {k : Nat} {f : Addr} {fd : FuncData} {ps : List Str} {x : Str} {p pos : Pos} {e : Expr} {es : List Expr}
theorem ed_call {fs : FS} {a : WA} (Fn : FnOk X.prog X.w X.K X.mg X.base CX0 k f fd ps (spF X.K fs)) (hr : Room k X.A) (hg : Gl X x) (hm : X.mg x = some (.ref f)) (hk : PySem.W.keepIn X.K (.ref f) = true) (hb : Binds X.K fd ps [])
    (ha : AD X (e :: es) a) (hdb : (x == ("__debug__" : Str)) = false := by decide) (he : starEach (e :: es) X.env = (false, eval e X.env) :: starEach es X.env := by rfl) (hpl : (backTo pos (starEach es X.env)).any (·.1) = false := by rfl) :
    ED X (.Call (.Name x p) (e :: es) [] pos) (wCall fs a) := ed_of (pe_call Fn hr hg hm hk hb .nil pass0 ha hdb he hpl) ok_call
theorem ed_call0 {fs : FS} (Fn : FnOk X.prog X.w X.K X.mg X.base CX0 k f fd ps (spF X.K fs)) (hr : Room k X.A) (hg : Gl X x) (hm : X.mg x = some (.ref f)) (hk : PySem.W.keepIn X.K (.ref f) = true) (hb : Binds X.K fd ps [])
    (hdb : (x == ("__debug__" : Str)) = false := by decide) : ED X (.Call (.Name x p) [] [] pos) (wCall fs aN) := ed_of (pe_call0 Fn hr hg hm hk hb .nil pass0 hdb) ok_call0
theorem ed_callP {i : Nat} {y : Str} {py : Pos} {fs : PFS} {a : WA} (Fn : FnOk X.prog X.w X.K X.mg X.base CX0 k f fd ps (spP X.K fs)) (hr : Room k X.A) (hg : Gl X x) (hm : X.mg x = some (.ref f)) (hk : PySem.W.keepIn X.K (.ref f) = true) (hb : Binds X.K fd ps [])
    (hv : PE X (.Name y py) (tVar i)) (ha : AD X es a) (hdb : (x == ("__debug__" : Str)) = false := by decide) (he : starEach (.Name y py :: es) X.env = (false, eval (.Name y py) X.env) :: starEach es X.env := by rfl) (hpl : (backTo pos (starEach es X.env)).any (·.1) = false := by rfl) :
    ED X (.Call (.Name x p) (.Name y py :: es) [] pos) (wCallP i fs a) := ed_of (pe_call Fn hr hg hm hk hb .nil pass0 (pa_cons hv ha he) hdb he hpl) ok_callP
end

/-! ### a def of the text -/
def start0 (N : List Str) (bs : List B) : En := bs.map some ++ List.replicate (N.length - bs.length) none
section
variable {P : Program} {w : World} {K : PySem.W.Frag} {mg : Str → Option Value} {base : Heap}
theorem start_at {N : List Str} {vs : List V} {i : Nat} {v : V} (h : vs[i]? = some v) : (L2.start N vs)[i]? = some (some v) := by
  unfold L2.start
  rw [List.getElem?_append_left (by rw [List.length_map]; exact getsome_lt h), List.getElem?_map, h]
  rfl
theorem start0_at {N : List Str} {bs : List B} {i : Nat} {b : B} (h : (start0 N bs)[i]? = some (some b)) : bs[i]? = some b := by
  unfold start0 at h
  by_cases hi : i < bs.length
  · rw [List.getElem?_append_left (by simpa using hi), List.getElem?_map] at h
    cases e : bs[i]? with
    | none => rw [e] at h; cases h
    | some c => rw [e] at h; cases h; rfl
  · rw [List.getElem?_append_right (by simpa using hi), List.getElem?_replicate] at h
    split at h <;> cases h
theorem start_len {N : List Str} {vs : List V} {bs : List B} (h : vs.length = bs.length) (hN : vs.length ≤ N.length) : (L2.start N vs).length = (start0 N bs).length := by
  unfold L2.start start0
  rw [List.length_append, List.length_append, List.length_map, List.length_map, List.length_replicate, List.length_replicate, h]

/-- a def by its body's reading as plain data -/
theorem body_F {N : List Str} {t : TS} {ws : WS} {fs : FS} {vs : List V} {H : Hp} {Q : VK} {Ex : XK} (hok : SOk K t ws) (hN : vs.length ≤ N.length) (law : ∀ ds P, fs ds P → ws { nx := fun _ => P (.dat .non), rt := fun b _ => P b } (start0 N (ds.map .dat)))
    (h : spF K fs vs H Q Ex) : t { nx := fun _ H' => Q .non H', rt := Q } (L2.start N vs) H := by
  obtain ⟨G, ds, P, sg, rep, hf, k⟩ := h
  let O : Hp := fun a => match G a with
    | none => H a
    | some _ => none
  have hO : ∀ a u, O a = some u → H a = some u ∧ G a = none := fun a u e => by
    show _ ∧ _
    have e' : (match G a with | none => H a | some _ => none) = some u := e
    cases hg : G a with
    | none => rw [hg] at e'; exact ⟨e', rfl⟩
    | some x => rw [hg] at e'; cases e'
  have nOwn : ∀ (i : Nat) (b : B) (v : V) (a : Addr), (start0 N (ds.map B.dat))[i]? = some (some b) → ownA v b ≠ some a := fun i b v a e z => by
    have e1 := start0_at e
    rw [List.getElem?_map] at e1
    cases e2 : ds[i]? with
    | none => rw [e2] at e1; cases e1
    | some d => rw [e2] at e1; cases e1; cases v <;> cases z
  have r0 : R K O G G (L2.start N vs) H (start0 N (ds.map .dat)) := by
    refine ⟨Sub.refl G, sg, fun a u e => ⟨(hO a u e).1, .inl (hO a u e).2⟩, start_len (by rw [List.length_map]; exact rep.length) hN, fun i b e => ?_, fun i j a bi bj v w e1 e2 e3 e4 e5 e6 => absurd e5 (nOwn i bi v a e1)⟩
    have e1 := start0_at e
    rw [List.getElem?_map] at e1
    cases e2 : ds[i]? with
    | none => rw [e2] at e1; cases e1
    | some d =>
      rw [e2] at e1
      cases e1
      obtain ⟨v, hv, p⟩ := rep.get e2
      exact ⟨v, start_at hv, p⟩
  have fin : ∀ {F' H' σ' E' v b}, R K O G F' σ' H' E' → RR K O F' σ' H' E' v b → P b → Q v H' := fun {F' H' σ' E' v b} r q p => by
    have hk : ∀ a u, G a = none → H a = some u → H' a = some u ∧ (F' a = none ∨ isTup u = true) := fun a u n e => r.o a u (by
      show (match G a with | none => H a | some _ => none) = some u
      rw [n]; exact e)
    refine k b v F' H' p r.g r.f hk (q.1.toO fun a e => ?_)
    obtain ⟨_, n, o, _⟩ := q.1.own e
    have hg := r.g.gone n
    have o' : (match G a with | none => H a | some _ => none) = none := o
    rw [hg] at o'
    exact o'
  exact hok O G G _ H _ _ { nx := fun _ => P (.dat .non), rt := fun b _ => P b } ⟨fun F σ H E r p => fin r (datRR .non) p, fun F σ H E v b r q p => fin r q p, fun F σ H E r p => p.elim, fun F σ H E r p => p.elim⟩ r0 (law ds P hf)
/-- the same, the first argument handed in to be changed -/
theorem body_P {N : List Str} {t : TS} {ws : WS} {fs : PFS} {vs : List V} {H : Hp} {Q : VK} {Ex : XK} (hok : SOk K t ws) (hN : vs.length ≤ N.length)
    (law : ∀ p d ds P, fs d ds P → ws { nx := fun E => ∃ d', E[0]? = some (some (.par p d')) ∧ P (.dat .non) d', rt := fun b E => ∃ d', E[0]? = some (some (.par p d')) ∧ P b d' } (start0 N (.par p d :: ds.map .dat)))
    (h : spP K fs vs H Q Ex) : t { nx := fun _ H' => Q .non H', rt := Q } (L2.start N vs) H := by
  obtain ⟨G, p, d, us, ds, P, rfl, gp, sg, cell, rep, hf, k⟩ := h
  let O : Hp := fun a => if a = p then none else match G a with
    | none => H a
    | some _ => none
  have hO : ∀ a u, O a = some u → H a = some u ∧ G a = none := fun a u e => by
    have e' : (if a = p then none else match G a with | none => H a | some _ => none) = some u := e
    by_cases z : a = p
    · rw [if_pos z] at e'; cases e'
    · rw [if_neg z] at e'
      cases hg : G a with
      | none => rw [hg] at e'; exact ⟨e', rfl⟩
      | some x => rw [hg] at e'; cases e'
  have Op : O p = none := by
    show (if p = p then none else match G p with | none => H p | some _ => none) = none
    rw [if_pos rfl]
  have own0 : ∀ (i : Nat) (b : B) (v : V) (a : Addr), (start0 N (B.par p d :: ds.map B.dat))[i]? = some (some b) → ownA v b = some a → i = 0 := fun i b v a e z => by
    cases i with
    | zero => rfl
    | succ i =>
      have e1 := start0_at e
      rw [List.getElem?_cons_succ, List.getElem?_map] at e1
      cases e2 : ds[i]? with
      | none => rw [e2] at e1; cases e1
      | some d => rw [e2] at e1; cases e1; cases v <;> cases z
  have r0 : R K O G G (L2.start N (.ref p :: us)) H (start0 N (.par p d :: ds.map .dat)) := by
    refine ⟨Sub.refl G, sg, fun a u e => ⟨(hO a u e).1, .inl (hO a u e).2⟩, start_len (by simp [rep.length]) hN, fun i b e => ?_, fun i j a bi bj v w e1 e2 e3 e4 e5 e6 => by rw [own0 i bi v a e1 e5, own0 j bj w a e2 e6]⟩
    have e1 := start0_at e
    cases i with
    | zero =>
      rw [List.getElem?_cons_zero] at e1
      cases e1
      exact ⟨_, start_at rfl, rfl, gp, Op, cell⟩
    | succ i =>
      rw [List.getElem?_cons_succ, List.getElem?_map] at e1
      cases e2 : ds[i]? with
      | none => rw [e2] at e1; cases e1
      | some d =>
        rw [e2] at e1
        cases e1
        obtain ⟨v, hv, p⟩ := rep.get e2
        exact ⟨v, start_at (by simpa using hv), p⟩
  have fin : ∀ {F' H' σ' E' v b}, R K O G F' σ' H' E' → RR K O F' σ' H' E' v b → (∃ d', E'[0]? = some (some (.par p d')) ∧ P b d') → Q v H' := fun {F' H' σ' E' v b} r q ⟨d', e0, pp⟩ => by
    obtain ⟨v0, hv0, q0⟩ := r.at_ 0 _ e0
    obtain ⟨ev, n, o, c⟩ := q0
    have hk : ∀ a u, a ≠ p → G a = none → H a = some u → H' a = some u ∧ (F' a = none ∨ isTup u = true) := fun a u z n e => r.o a u (by
      show (if a = p then none else match G a with | none => H a | some _ => none) = some u
      rw [if_neg z, n]; exact e)
    refine k b d' v F' H' pp r.g r.f hk n c (q.1.toO fun a e => ?_)
    obtain ⟨_, n', o', _⟩ := q.1.own e
    have z : a ≠ p := fun z => by
      subst z
      exact q.2 a e ⟨0, _, v0, e0, hv0, by subst ev; rfl⟩
    have hg := r.g.gone n'
    have o2 : (if a = p then none else match G a with | none => H a | some _ => none) = none := o'
    rw [if_neg z, hg] at o2
    exact o2
  exact hok O G G _ H _ _ { nx := fun E => ∃ d', E[0]? = some (some (.par p d')) ∧ P (.dat .non) d', rt := fun b E => ∃ d', E[0]? = some (some (.par p d')) ∧ P b d' } ⟨fun F σ H E r p => fin r (datRR .non) p, fun F σ H E v b r q p => fin r q p, fun F σ H E r p => p.elim, fun F σ H E r p => p.elim⟩ r0 (law p d ds P hf)
end
end PW

set_option Elab.async false
set_option linter.all false
set_option autoImplicit false
set_option maxRecDepth 100000
set_option maxHeartbeats 4000000
namespace PW
open PySem PySem.Spec PyProof.Rows L2

/-! ### targets -/
abbrev WG := D → En → (En → Prop) → Prop
abbrev WGs := List D → En → (En → Prop) → Prop
def tG (K : PySem.W.Frag) (w : WG) : TG := fun v σ H Q => ∃ O G F E d Q', R K O G F σ H E ∧ Rep K F v d ∧ w d E Q' ∧ ∀ σ' H' F' E', Sub F F' → R K O G F' σ' H' E' → Q' E' → Q σ' H'
def tGs (K : PySem.W.Frag) (w : WGs) : TGs := fun vs σ H Q => ∃ O G F E ds Q', R K O G F σ H E ∧ RepL K F vs ds ∧ w ds E Q' ∧ ∀ σ' H' F' E', Sub F F' → R K O G F' σ' H' E' → Q' E' → Q σ' H'
def gN (i : Nat) : WG := fun d E Q => Q (E.set i (some (.dat d)))
def gT (n : Nat) (w : WGs) : WG := fun d E Q => match d with
  | .tup ds => ds.length = n ∧ w ds E Q
  | _ => False
def gsN : WGs := fun ds E Q => ds = [] ∧ Q E
def gsC (w : WG) (ws : WGs) : WGs := fun ds E Q => match ds with
  | d :: r => w d E fun E1 => ws r E1 Q
  | [] => False
abbrev GD (X : Cx) (e : Expr) (w : WG) : Prop := PG X e (tG X.K w)
abbrev GsD (X : Cx) (es : List Expr) (w : WGs) : Prop := PGs X es (tGs X.K w)
section
variable {X : Cx} {pos : Pos} {e : Expr} {es : List Expr}
theorem gd_n {i : Nat} {x : Str} (hN : X.N.Nodup) (hi : X.N[i]? = some x) (hx : Loc X.env.scope x) (hf : X.fn x = true ∨ X.env.scope.names.lookup x = some .local := by first | exact .inl rfl | exact .inr rfl | assumption) : GD X (.Name x pos) (gN i) := ⟨fun pins s σ H v u Q I rv h => by
  obtain ⟨O, G, F, E, d, Q', r, p, q, k⟩ := h
  refine (pg_name hN hi hx hf).run pins s σ H v u Q I rv ?_
  exact k _ _ F _ (Sub.refl F) (r.set i (datRR p)) q⟩
theorem gsd_n : GsD X [] gsN := ⟨fun pins s σ H vs us Q I rv h => by
  obtain ⟨O, G, F, E, ds, Q', r, p, ⟨e, q⟩, k⟩ := h
  subst e
  cases p
  exact pgs_nil.run pins s σ H [] us Q I rv ⟨rfl, k _ _ F _ (Sub.refl F) r q⟩⟩
theorem gsd_c {w : WG} {ws : WGs} (h1 : GD X e w) (h2 : GsD X es ws) (hs : (assignEach (e :: es) X.env).map (·.2) = assign e X.env :: (assignEach es X.env).map (·.2) := by rfl) : GsD X (e :: es) (gsC w ws) := ⟨fun pins s σ H vs us Q I rv h => by
  obtain ⟨O, G, F, E, ds, Q', r, p, q, k⟩ := h
  cases p with
  | nil => exact (show False from q).elim
  | cons p1 p2 =>
    rename_i v vs d ds
    have q : w d E fun E1 => ws ds E1 Q' := q
    refine (pgs_cons h1 h2 hs).run pins s σ H _ us Q I rv ⟨v, vs, rfl, ?_⟩
    exact ⟨O, G, F, E, d, _, r, p1, q, fun σ' H' F' E' s' r' q' => ⟨O, G, F', E', ds, Q', r', p2.mono s', q', fun σ2 H2 F2 E2 s2 r2 q2 => k _ _ F2 E2 (s'.trans s2) r2 q2⟩⟩⟩
theorem gd_t {k : Nat} {w : WGs} {n : Nat} (hc : X.calm = true) (h : GsD X es w) (hn : (assignEach es X.env).length = n := by rfl) (hst : (assignEach es X.env).findIdx? (·.1) = none := by rfl) : GD X (.Tuple es k pos) (gT n w) := ⟨fun pins s σ H v u Q I rv hq => by
  obtain ⟨O, G, F, E, d, Q', r, p, q, kk⟩ := hq
  cases d with
  | tup ds =>
    obtain ⟨hl, q⟩ := (show ds.length = n ∧ w ds E Q' from q)
    cases p with
    | tup hF p =>
      refine (pg_tup hc h hn hst).run pins s σ H _ u Q I rv ⟨_, _, rfl, SqT.of (r.f.tup hF), p.length.trans hl, ?_⟩
      exact ⟨O, G, F, E, ds, Q', r, p, q, kk⟩
  | _ => exact (show False from q).elim⟩
/-- target = value -/
def sAsg (w : WE) (g : WG) : WS := fun D E => w E fun b E1 => g b.d E1 D.nx
theorem sd_asg {tg e : Expr} {w : WE} {g : WG} (he : ED X e w) (hg : GD X tg g) (hs : swapsWithSole [tg] e pos.line X.env = pure false := by rfl) (hw : swappedStores [tg] e X.env = pure none := by rfl)
    (h1 : (assignEach [tg] X.env).map (·.2) = [assign tg X.env] := by rfl) : SD X (.Assign [tg] e pos) (sAsg w g) := sd_of (ps_asg he hg hs hw h1) fun O G F σ H E D D' en r h => by
  refine tE_bind r h fun v H' F' E' b s r' p q => ?_
  obtain ⟨F2, s2, r2, p2⟩ := r'.frz p
  exact ⟨O, G, F2, E', b.d, D'.nx, r2, p2, q, fun σ3 H3 F3 E3 s3 r3 q3 => en.nx _ _ _ _ r3 q3⟩
end

/-! ### what is walked -/
/-- the iterator hands out ds -/
structure Gives (K : PySem.W.Frag) (J : It) (F1 : Hp) (ds : List D) : Prop where
  go : ∀ O F σ H E i, R K O F1 F σ H E → i < ds.length → J.go i H
  stop : ∀ O F σ H E, R K O F1 F σ H E → J.stop ds.length H
  yld : ∀ O F σ H E i x H', R K O F1 F σ H E → i < ds.length → J.yld i H x H' → ∃ F' d, Sub F F' ∧ R K O F1 F' σ H' E ∧ Rep K F' x d ∧ ds[i]? = some d
abbrev WI := En → (List D → En → Prop) → Prop
def tI (K : PySem.W.Frag) (w : WI) : TI := fun σ H Rr => ∃ O G F E Q', R K O G F σ H E ∧ w E Q' ∧ ∀ J H' F' E' ds, Sub F F' → R K O G F' σ H' E' → Gives K J F' ds → Q' ds E' → Rr J H'
abbrev ID (X : Cx) (tg iter : Expr) (w : WI) : Prop := PI X tg iter (tI X.K w)
theorem tI_bind {K : PySem.W.Frag} {w : WI} {O G F : Hp} {σ : L2.St} {H : Hp} {E : En} {Rr : It → Hp → Prop} {P : List D → En → Prop} (r : R K O G F σ H E) (h : w E P)
    (k : ∀ J H' F' E' ds, Sub F F' → R K O G F' σ H' E' → Gives K J F' ds → P ds E' → Rr J H') : tI K w σ H Rr := ⟨O, G, F, E, P, r, h, k⟩

def itemsD : D → Option (List D)
  | .lst l => some l
  | .tup l => some l
  | .str s => some (s.map fun c => .str [c])
  | .scr ns => some (ns.map .int)
  | .dct _ kd => some (kd.map (·.1))
  | _ => none
/-- a list, a tuple, a text, a dict's keys -/
def iS (w : WE) : WI := fun E Q => w E fun b E1 => ∃ ds, itemsD b.d = some ds ∧ Q ds E1
def rng (lo : Int) (n : Nat) : List D := (List.range n).map fun (k : Nat) => D.int (lo + (k : Int))
/-- range(n), range(a, b) -/
def iR1 (w : WE) : WI := fun E Q => w E fun b E1 => match b.d with
  | .int n => (-(2 ^ 62) ≤ n ∧ n < 2 ^ 62) ∧ Q (rng 0 n.toNat) E1
  | _ => False
def iR2 (wa wb : WE) : WI := fun E Q => wa E fun a E1 => wb E1 fun b E2 => match a.d, b.d with
  | .int i, .int j => (-(2 ^ 62) ≤ i ∧ i < 2 ^ 62 ∧ -(2 ^ 62) ≤ j ∧ j < 2 ^ 62) ∧ Q (rng i (j - i).toNat) E2
  | _, _ => False

section
variable {K : PySem.W.Frag} {F1 : Hp}
theorem gives_list {a : Addr} {ds : List D} {vs : List V} (h : SqL K F1 a vs) (p : RepL K F1 vs ds) : Gives K (Itl K a) F1 ds where
  go := fun O F σ H E i r hi => by
    obtain ⟨v, e, _⟩ := p.get (List.getElem?_eq_getElem hi)
    exact ⟨vs, v, r.f.sql (r.g.sql h), e⟩
  stop := fun O F σ H E r => ⟨vs, r.f.sql (r.g.sql h), Nat.le_of_eq p.length⟩
  yld := fun O F σ H E i x H' r hi ⟨e, y⟩ => by
    subst e
    obtain ⟨v, e, p1⟩ := p.get (List.getElem?_eq_getElem hi)
    have := y vs (r.f.sql (r.g.sql h))
    rw [e] at this; cases this
    exact ⟨F, _, Sub.refl F, r, p1.mono r.g, List.getElem?_eq_getElem hi⟩
theorem gives_tup {a : Addr} {ds : List D} {vs : List V} (h : F1 a = some (.tup vs)) (p : RepL K F1 vs ds) : Gives K (Itt K a) F1 ds where
  go := fun O F σ H E i r hi => by
    obtain ⟨v, e, _⟩ := p.get (List.getElem?_eq_getElem hi)
    exact ⟨vs, v, SqT.of (r.f.tup (r.g.tup h)), e⟩
  stop := fun O F σ H E r => ⟨vs, SqT.of (r.f.tup (r.g.tup h)), Nat.le_of_eq p.length⟩
  yld := fun O F σ H E i x H' r hi ⟨e, y⟩ => by
    subst e
    obtain ⟨v, e, p1⟩ := p.get (List.getElem?_eq_getElem hi)
    have := y vs (SqT.of (r.f.tup (r.g.tup h)))
    rw [e] at this; cases this
    exact ⟨F, _, Sub.refl F, r, p1.mono r.g, List.getElem?_eq_getElem hi⟩
theorem gives_str (l : List Nat) : Gives K (Its (mkS l)) F1 (l.map fun c => .str [c]) where
  go := fun O F σ H E i r hi => by
    show i < (mkS l).cps.size
    simpa using hi
  stop := fun O F σ H E r => by
    show (mkS l).cps.size ≤ (l.map _).length
    simp
  yld := fun O F σ H E i x H' r hi ⟨e, c, hc, ex⟩ => by
    subst e ex
    refine ⟨F, .str [c], Sub.refl F, r, .str [c], ?_⟩
    have hc : l[i]? = some c := by simpa using hc
    rw [List.getElem?_map, hc]
    rfl
theorem gives_range (lo : Int) (n : Nat) : Gives K (Itr lo n) F1 (rng lo n) where
  go := fun O F σ H E i r hi => by
    show i < n
    simpa [rng] using hi
  stop := fun O F σ H E r => by
    show n ≤ _
    simp [rng]
  yld := fun O F σ H E i x H' r hi ⟨e, ex⟩ => by
    subst e ex
    have hi : i < n := by simpa [rng] using hi
    refine ⟨F, .int (lo + i), Sub.refl F, r, .int _, ?_⟩
    unfold rng
    rw [List.getElem?_map, List.getElem?_range hi]
    rfl
theorem RepK.getK : ∀ {kv : List (Key × V)} {kd : List (D × D)} {i : Nat} {k : Key} {v : V} {F : Hp}, RepK K F kv kd → kv[i]? = some (k, v) → ∃ d, kd[i]? = some (kD k, d) ∧ Rep K F v d
  | _, _, _, _, _, _, .nil, e => by simp at e
  | _, _, 0, _, _, _, .cons h _, e => by simp at e; obtain ⟨e1, e2⟩ := e; subst e1 e2; exact ⟨_, rfl, h⟩
  | _, _, i + 1, k, v, F, .cons _ r, e => by
    obtain ⟨d, h1, h2⟩ := RepK.getK (i := i) (k := k) (v := v) r (by simpa using e)
    exact ⟨d, by simpa using h1, h2⟩
theorem RepT.getT : ∀ {kv : List (List Key × V)} {kd : List (D × D)} {i : Nat} {k : List Key} {v : V} {F : Hp}, RepT K F kv kd → kv[i]? = some (k, v) → ∃ d, kd[i]? = some (.tup (k.map kD), d) ∧ Rep K F v d
  | _, _, _, _, _, _, .nil, e => by simp at e
  | _, _, 0, _, _, _, .cons h _, e => by simp at e; obtain ⟨e1, e2⟩ := e; subst e1 e2; exact ⟨_, rfl, h⟩
  | _, _, i + 1, k, v, F, .cons _ r, e => by
    obtain ⟨d, h1, h2⟩ := RepT.getT (i := i) (k := k) (v := v) r (by simpa using e)
    exact ⟨d, by simpa using h1, h2⟩
theorem rep_kV {F : Hp} (k : Key) : Rep K F (kV k) (kD k) := by
  cases k with
  | inl i => exact .int i
  | inr x =>
    have : Rep K F (.str (mkS x.cps.toList)) (.str x.cps.toList) := .str _
    rw [mkS_of] at this
    exact this
theorem repL_kV {F : Hp} : ∀ ks : List Key, RepL K F (ks.map kV) (ks.map kD)
  | [] => .nil
  | k :: ks => .cons (rep_kV k) (repL_kV ks)
theorem gives_keys {a : Addr} {o : Obj} {kv : List (Key × V)} {kd : List (D × D)} (h : F1 a = some (.frz o (.dK kv))) (p : RepK K F1 kv kd) : Gives K (Itk a o kv) F1 (kd.map (·.1)) where
  go := fun O F σ H E i r hi => ⟨r.f.exact (r.g.exact h rfl) rfl, by rw [p.length]; simpa using hi⟩
  stop := fun O F σ H E r => ⟨r.f.exact (r.g.exact h rfl) rfl, by rw [p.length]; simp⟩
  yld := fun O F σ H E i x H' r hi ⟨e, k0, v0, hk, ex⟩ => by
    subst e ex
    obtain ⟨d, h1, h2⟩ := p.getK hk
    exact ⟨F, kD k0, Sub.refl F, r, rep_kV k0, by rw [List.getElem?_map, h1]; rfl⟩
theorem gives_keysT {a : Addr} {o : Obj} {kv : List (List Key × V)} {kd : List (D × D)} (h : F1 a = some (.frz o (.dT kv))) (p : RepT K F1 kv kd) : Gives K (Itkt a o kv) F1 (kd.map (·.1)) where
  go := fun O F σ H E i r hi => ⟨r.f.exact (r.g.exact h rfl) rfl, by rw [p.length]; simpa using hi⟩
  stop := fun O F σ H E r => ⟨r.f.exact (r.g.exact h rfl) rfl, by rw [p.length]; simp⟩
  yld := fun O F σ H E i x H' r hi ⟨e, k0, v0, q, hk, ex, hq⟩ => by
    subst e ex
    obtain ⟨d, h1, h2⟩ := p.getT hk
    obtain ⟨F', s', r', e'⟩ := r.knowTup hq
    exact ⟨F', .tup (k0.map kD), s', r', .tup e' (repL_kV k0), by rw [List.getElem?_map, h1]; rfl⟩
end
section
variable {X : Cx} {tg : Expr} {pins : List (Addr × Obj)} {σ : L2.St} {H1 : Hp} {s1 : Shared} {Rr : It → Hp → Prop} {E : Value → Shared → Prop}
theorem it_list {a : Addr} {xs : List V} (I1 : Inv X pins σ H1 s1) (hq : SqL X.K H1 a xs) (q : Rr (Itl X.K a) H1) : wpAny (model X.prog X.w) X.A (pyIter (.ref a)) (PIE X pins σ tg Rr) E s1 := by
  obtain ⟨its, rv, p, hz⟩ := I1.list hq
  refine wpAny_pyIter_list p.isList ?_
  refine ⟨s1.heap.objs.size, [s1.heap.objs.size], _, _, H1, rfl, I1.kept (t' := s1.toks) fun b o e => Heap.get?_push_of_some _ e, turn_list a _, ⟨_, Heap.get?_push_size _ rfl, rfl, rfl⟩, fun b hb => ?_, q⟩
  have e : b = s1.heap.objs.size := by simpa using hb
  subst e
  exact I1.fpOk (Nat.le_refl _) (I1.hok.fresh (Nat.le_refl _))
theorem it_tup {a : Addr} {xs : List V} (I1 : Inv X pins σ H1 s1) (hq : SqT X.K H1 a xs) (q : Rr (Itt X.K a) H1) : wpAny (model X.prog X.w) X.A (pyIter (.ref a)) (PIE X pins σ tg Rr) E s1 := by
  obtain ⟨its, rv, p, hz⟩ := I1.tuple hq
  refine wpAny_pyIter_tuple (show s1.heap.IsTuple a its.toArray from p) ?_
  refine ⟨s1.heap.objs.size, [s1.heap.objs.size], _, _, H1, rfl, I1.kept (t' := s1.toks) fun b o e => Heap.get?_push_of_some _ e, turn_tuple a _, ⟨_, Heap.get?_push_size _ rfl, rfl, rfl⟩, fun b hb => ?_, q⟩
  have e : b = s1.heap.objs.size := by simpa using hb
  subst e
  exact I1.fpOk (Nat.le_refl _) (I1.hok.fresh (Nat.le_refl _))
theorem it_str {x : Str} {t : Tok} (I1 : Inv X pins σ H1 s1) (q : Rr (Its x) H1) : wpAny (model X.prog X.w) X.A (pyIter (.str x t)) (PIE X pins σ tg Rr) E s1 := by
  cases ha : x.cps.all (· < 128)
  · exact wpAny_pyIter_wide ha (pi_one (tk := s1.toks) I1 _ (turn_str _ x t "str_iterator" (.inr rfl)) ⟨_, Heap.get?_push_size _ rfl, rfl, rfl⟩ q)
  · exact wpAny_pyIter_ascii ha (pi_one (tk := s1.toks) I1 _ (turn_str _ x t "str_ascii_iterator" (.inl rfl)) ⟨_, Heap.get?_push_size _ rfl, rfl, rfl⟩ q)
theorem it_keys {d : Addr} {o : Obj} {kvs : List (Key × V)} (I1 : Inv X pins σ H1 s1) (hd : H1 d = some (.frz o (.dK kvs))) (q : Rr (Itk d o kvs) H1) : wpAny (model X.prog X.w) X.A (pyIter (.ref d)) (PIE X pins σ tg Rr) E s1 := by
  obtain ⟨hs, hgd, hx, es, ep, vs, hdt, hsz, kv, hm⟩ := I1.frzK hd
  refine iter_keys hs hgd hx hdt (pi_one (tk := s1.toks) I1 _ (turn_keys _ hdt) ⟨_, Heap.get?_push_size _ rfl, rfl, ?_⟩ q)
  rw [hsz] <;> rfl
theorem it_keysT {d : Addr} {o : Obj} {kvs : List (List Key × V)} (I1 : Inv X pins σ H1 s1) (hd : H1 d = some (.frz o (.dT kvs))) (q : Rr (Itkt d o kvs) H1) : wpAny (model X.prog X.w) X.A (pyIter (.ref d)) (PIE X pins σ tg Rr) E s1 := by
  obtain ⟨hs, hgd, hx, es, ep, hdt, hsz, ent⟩ := I1.frzT hd
  refine iter_keys hs hgd hx hdt (pi_one (tk := s1.toks) I1 _ (turn_keysT _ hdt) ⟨_, Heap.get?_push_size _ rfl, rfl, ?_⟩ q)
  rw [hsz] <;> rfl
end
/-- a dict, known for good, is locked -/
theorem R.lock {K : PySem.W.Frag} {O G F : Hp} {σ : L2.St} {H : Hp} {E : En} {a : Addr} {o : Obj} {u : HO} (r : R K O G F σ H E) (hF : F a = some u) (hH : H a = some u) (d : isD u = true) :
    Sub F (upd F a (.frz o u)) ∧ R K O G (upd F a (.frz o u)) σ (upd H a (.frz o u)) E := by
  have s : Sub F (upd F a (.frz o u)) := fun b w e => by
    by_cases z : b = a
    · subst z
      rw [hF] at e; cases e
      exact .inr ⟨d, o, upd_same⟩
    · rw [upd_ne z]; exact .inl e
  have nt : isTup u = false := by cases u <;> first | rfl | cases d
  have nO : O a = none := by
    cases e : O a with
    | none => rfl
    | some w =>
      obtain ⟨h1, h2⟩ := r.o a w e
      rw [hH] at h1; cases h1
      rcases h2 with h2 | h2
      · rw [hF] at h2; cases h2
      · rw [nt] at h2; cases h2
  refine ⟨s, r.step s (r.f.upd_both _) (fun b w e => ?_) fun b w => ?_⟩
  · have z : b ≠ a := fun z => by subst z; rw [nO] at e; cases e
    rw [upd_ne z, upd_ne z]
    exact r.o b w e
  · have z : b ≠ a := fun z => by
      subst z
      have := (r.owned w).1
      rw [hF] at this; cases this
    rw [upd_ne z, upd_ne z]
    exact ⟨(r.owned w).1, rfl⟩
section
variable {X : Cx} {tg e : Expr}
/-- a dict, walked: it is locked for good -/
theorem R.lockRd {K : PySem.W.Frag} {O G F : Hp} {σ : L2.St} {H : Hp} {E : En} {a : Addr} {u : HO} (r : R K O G F σ H E) (h : Rd F a u) (d : isD u = true) :
    (∃ o, F a = some (.frz o u) ∧ H a = some (.frz o u)) ∨ (∃ o, F a = some u ∧ H a = some (.frz o u)) ∨ (F a = some u ∧ H a = some u) := by
  rcases h with h | ⟨o, h⟩
  · rcases r.f a u h with h' | ⟨_, o, h'⟩
    · exact .inr (.inr ⟨h, h'⟩)
    · exact .inr (.inl ⟨o, h, h'⟩)
  · exact .inl ⟨o, h, r.f.exact h rfl⟩
theorem R.lock2 {K : PySem.W.Frag} {O G F : Hp} {σ : L2.St} {H : Hp} {E : En} {a : Addr} {o : Obj} {u : HO} (r : R K O G F σ H E) (hF : F a = some u) (hH : H a = some (.frz o u)) (d : isD u = true) :
    Sub F (upd F a (.frz o u)) ∧ R K O G (upd F a (.frz o u)) σ H E := by
  have s : Sub F (upd F a (.frz o u)) := fun b w e => by
    by_cases z : b = a
    · subst z
      rw [hF] at e; cases e
      exact .inr ⟨d, o, upd_same⟩
    · rw [upd_ne z]; exact .inl e
  have nO : O a = none := by
    cases e : O a with
    | none => rfl
    | some w =>
      obtain ⟨h1, h2⟩ := r.o a w e
      rw [hH] at h1; cases h1
      rcases h2 with h2 | h2
      · rw [hF] at h2; cases h2
      · cases h2
  refine ⟨s, r.step s (r.f.upd_in hH) (fun b w e => ?_) fun b w => ?_⟩
  · have z : b ≠ a := fun z => by subst z; rw [nO] at e; cases e
    rw [upd_ne z]
    exact r.o b w e
  · have z : b ≠ a := fun z => by
      subst z
      have := (r.owned w).1
      rw [hF] at this; cases this
    rw [upd_ne z]
    exact ⟨(r.owned w).1, rfl⟩
theorem id_s {w : WE} (he : ED X e w) : ID X tg e (iS w) := ⟨fun pins s σ H Rr I h => by
  obtain ⟨O, G, F, E, Q', r, hw, kk⟩ := h
  refine thn (he.run pins s σ H (fun v H1 => ∃ F1 E1 b, Sub F F1 ∧ R X.K O G F1 σ H1 E1 ∧ RR X.K O F1 σ H1 E1 v b ∧ _) I (tE_ok O G F σ H E _ r hw)) fun u s1 ⟨v, H1, I1, rv, F0, E1, b, sb0, r0, p0, ds, ei, q⟩ => ?_
  obtain ⟨F1, sb1, r1, p1⟩ := r0.frz p0
  have fin : ∀ (J : It) H' F', Sub F1 F' → R X.K O G F' σ H' E1 → Gives X.K J F' ds → Rr J H' := fun J H' F' s' r' g => kk J H' F' E1 ds ((sb0.trans sb1).trans s') r' g q
  revert ei p1
  generalize b.d = x
  intro ei p1
  cases p1 with
  | lst h p =>
    cases ei
    cases rv
    exact it_list I1 (SqL.of (r1.f.lst h)) (fin _ _ F1 (Sub.refl F1) r1 (gives_list (SqL.of h) p))
  | tup h p =>
    cases ei
    cases rv
    exact it_tup I1 (SqT.of (r1.f.tup h)) (fin _ _ F1 (Sub.refl F1) r1 (gives_tup h p))
  | str l =>
    cases ei
    obtain ⟨t, rfl⟩ := rv
    exact it_str I1 (fin _ _ F1 (Sub.refl F1) r1 (gives_str l))
  | scr h =>
    cases ei
    cases rv
    exact it_list I1 (r1.f.sql h) (fin _ _ F1 (Sub.refl F1) r1 (gives_list h (RepL.ofInts _)))
  | dK h p =>
    cases ei
    cases rv
    rcases r1.lockRd h rfl with ⟨o, hF, hH⟩ | ⟨o, hF, hH⟩ | ⟨hF, hH⟩
    · exact it_keys I1 hH (fin _ _ F1 (Sub.refl F1) r1 (gives_keys hF p))
    · obtain ⟨s2, r2⟩ := r1.lock2 hF hH rfl
      exact it_keys I1 hH (fin _ _ _ s2 r2 (gives_keys upd_same (p.mono s2)))
    · obtain ⟨o, I2⟩ := I1.lock hH True.intro
      obtain ⟨s2, r2⟩ := r1.lock (o := o) hF hH rfl
      exact it_keys I2 upd_same (fin _ _ _ s2 r2 (gives_keys upd_same (p.mono s2)))
  | dT h p =>
    cases ei
    cases rv
    rcases r1.lockRd h rfl with ⟨o, hF, hH⟩ | ⟨o, hF, hH⟩ | ⟨hF, hH⟩
    · exact it_keysT I1 hH (fin _ _ F1 (Sub.refl F1) r1 (gives_keysT hF p))
    · obtain ⟨s2, r2⟩ := r1.lock2 hF hH rfl
      exact it_keysT I1 hH (fin _ _ _ s2 r2 (gives_keysT upd_same (p.mono s2)))
    · obtain ⟨o, I2⟩ := I1.lock hH True.intro
      obtain ⟨s2, r2⟩ := r1.lock (o := o) hF hH rfl
      exact it_keysT I2 upd_same (fin _ _ _ s2 r2 (gives_keysT upd_same (p.mono s2)))
  | _ => cases ei⟩
theorem id_of {iter : Expr} {wi : TI} {w : WI} (h : PI X tg iter wi) (k : ∀ O G F σ H E (Q : List D → En → Prop), R X.K O G F σ H E → w E Q → wi σ H fun J H1 => ∃ F1 E1 ds, Sub F F1 ∧ R X.K O G F1 σ H1 E1 ∧ Gives X.K J F1 ds ∧ Q ds E1) : ID X tg iter w := ⟨fun pins s σ H Rr I hq => by
  obtain ⟨O, G, F, E, Q', r, hw, kk⟩ := hq
  refine thn (h.run pins s σ H _ I (k O G F σ H E Q' r hw)) fun v s1 h1 => thn h1 fun itv s2 h2 => ?_
  obtain ⟨it, fp, tn, J, H', e, I2, T, st, f2, F1, E1, ds, sb, r1, g, q⟩ := h2
  exact ⟨it, fp, tn, J, H', e, I2, T, st, f2, kk J H' F1 E1 ds sb r1 g q⟩⟩
theorem id_r1 {a : Expr} {w : WE} {p pos : Pos} (hg : Gl X "range") (hm : X.mg "range" = none) (ha : ED X a w) (hs : starEach [a] X.env = [(false, eval a X.env)] := by rfl) : ID X tg (.Call (.Name "range" p) [a] [] pos) (iR1 w) :=
  id_of (pi_range1 hg hm (pa_cons ha pa_nil (by rw [hs]; rfl)) hs) fun O G F σ H E Q r q => by
    refine tE_bind r q fun v H1 F1 E1 b s1 r1 p1 q1 => ?_
    split at q1
    · rename_i n en
      have e : v = .int n := by
        cases b with
        | dat d => have p := p1.1; cases en; cases p; rfl
        | own d => obtain ⟨a, _, _, _, c⟩ := p1.1; cases en; exact c.elim
        | par a d => obtain ⟨_, _, _, c⟩ := p1.1; cases en; exact c.elim
      subst e
      exact ⟨n, rfl, q1.1.1, q1.1.2, F1, E1, _, s1, r1, gives_range 0 n.toNat, q1.2⟩
    · exact q1.elim
theorem int_of {K : PySem.W.Frag} {O F : Hp} {σ : L2.St} {H : Hp} {E : En} {v : V} {b : B} {n : Int} (p1 : RR K O F σ H E v b) (en : b.d = .int n) : v = .int n := by
  cases b with
  | dat d => have p := p1.1; cases en; cases p; rfl
  | own d => obtain ⟨a, _, _, _, c⟩ := p1.1; cases en; exact c.elim
  | par a d => obtain ⟨_, _, _, c⟩ := p1.1; cases en; exact c.elim
theorem id_r2 {a b : Expr} {w w2 : WE} {p pos : Pos} (hg : Gl X "range") (hm : X.mg "range" = none) (ha : ED X a w) (hb : ED X b w2) (hs : starEach [a, b] X.env = [(false, eval a X.env), (false, eval b X.env)] := by rfl) (hs2 : starEach [b] X.env = [(false, eval b X.env)] := by rfl) :
    ID X tg (.Call (.Name "range" p) [a, b] [] pos) (iR2 w w2) :=
  id_of (pi_range2 hg hm (pa_cons ha (pa_cons hb pa_nil (by rw [hs2]; rfl)) (by rw [hs, hs2])) hs hs2) fun O G F σ H E Q r q => by
    refine tE_bind r q fun v H1 F1 E1 b s1 r1 p1 q1 => ?_
    refine tE_bind r1 q1 fun v2 H2 F2 E2 b2 s2 r2 p2 q2 => ?_
    split at q2
    · rename_i i j ei ej
      have e1 := int_of p1 ei
      have e2 := int_of p2 ej
      subst e1 e2
      exact ⟨i, j, rfl, q2.1, F2, E2, _, s1.trans s2, r2, gives_range i _, q2.2⟩
    · exact q2.elim

/-! ### for -/
def sFor (wi : WI) (wg : WG) (wb : WS) : WS := fun D E => wi E fun ds E1 => ∃ W : Nat → En → Prop, W 0 E1 ∧
  (∀ i d E', ds[i]? = some d → W i E' → wg d E' fun E2 => wb { D with nx := W (i + 1), ct := W (i + 1), bk := D.nx } E2) ∧ ∀ E', W ds.length E' → D.nx E'
theorem sd_for {iter : Expr} {body : List Stmt} {wi : WI} {wg : WG} {wb : WS} {pos : Pos} (hp : PassesOwn (model X.prog X.w) X.A X.env X.xe) (hc : X.calm = true) (hi : ID X tg iter wi) (hg : GD X tg wg) (hb : BD X body wb)
    (hs : ∀ x, foldedSetIterable iter X.env x = pure x := by intro _; rfl) : SD X (.For tg iter body [] pos) (sFor wi wg wb) := sd_of (ps_for hp hc hi hg hb hs) fun O G F σ H E D D' en r h => by
  refine tI_bind r h fun J H1 F1 E1 ds s1 r1 g ⟨W, w0, turn, done⟩ => ?_
  have en1 := en.up (F := F1) r1.g
  refine ⟨fun i m σ H => m = ds.length - i ∧ i ≤ ds.length ∧ ∃ F E, R X.K O F1 F σ H E ∧ W i E, ⟨_, rfl, Nat.zero_le _, F1, E1, ⟨Sub.refl F1, r1.f, r1.o, r1.len, r1.at_, r1.nd⟩, w0⟩, ?_⟩
  rintro i m σ2 H2 ⟨rfl, hi, F2, E2, r2, w2⟩
  by_cases hlt : i < ds.length
  · refine .inr ⟨g.go O F2 σ2 H2 E2 i r2 hlt, fun σ' H' => ∃ F E, R X.K O F1 F σ' H' E ∧ W (i + 1) E, fun σ' H' ⟨F3, E3, r3, w3⟩ => ⟨ds.length - (i + 1), by omega, rfl, hlt, F3, E3, r3, w3⟩, fun x H' y => ?_⟩
    obtain ⟨F3, d, s3, r3, p3, e3⟩ := g.yld O F2 σ2 H2 E2 i x H' r2 hlt y
    refine ⟨O, F1, F3, E2, d, _, r3, p3, turn i d E2 e3 w2, fun σ4 H4 F4 E4 s4 r4 q4 => ?_⟩
    refine ⟨O, F1, F4, E4, { D' with nx := W (i + 1), ct := W (i + 1), bk := D'.nx }, ⟨?_, en1.rt, ?_, ?_⟩, r4, q4⟩
    · exact fun F5 σ5 H5 E5 r5 w5 => ⟨F5, E5, r5, w5⟩
    · exact fun F5 σ5 H5 E5 r5 w5 => en1.nx _ _ _ _ r5 w5
    · exact fun F5 σ5 H5 E5 r5 w5 => ⟨F5, E5, r5, w5⟩
  · have e : i = ds.length := by omega
    subst e
    exact .inl ⟨g.stop O F2 σ2 H2 E2 r2, en1.nx _ _ _ _ r2 (done E2 w2)⟩
end
end PW

set_option Elab.async false
set_option linter.all false
set_option autoImplicit false
set_option maxRecDepth 100000
set_option maxHeartbeats 4000000
namespace PW
open PySem PySem.Spec PyProof.Rows L2

/-! ### comprehensions -/
def wipeE (E : En) : List Nat → En
  | [] => E
  | v :: vs => (wipeE E vs).set v none
/-- the names of the block are again what they were -/
def backE (E' E : En) : List Nat → En
  | [] => E'
  | v :: vs => (backE E' E vs).set v (match E[v]? with
    | some (some (.dat d)) => some (.dat d)
    | _ => none)
theorem wipeE_len (E : En) : ∀ vs, (wipeE E vs).length = E.length
  | [] => rfl
  | v :: vs => by unfold wipeE; rw [List.length_set, wipeE_len E vs]
theorem backE_len (E' E : En) : ∀ vs, (backE E' E vs).length = E'.length
  | [] => rfl
  | v :: vs => by unfold backE; rw [List.length_set, backE_len E' E vs]
theorem wipeE_some {E : En} {i : Nat} {b : B} : ∀ {vs : List Nat}, (wipeE E vs)[i]? = some (some b) → E[i]? = some (some b) ∧ i ∉ vs
  | [], h => ⟨h, by simp⟩
  | v :: vs, h => by
    unfold wipeE at h
    rcases getset h with ⟨_, e, _⟩ | ⟨ne, h⟩
    · cases e
    · obtain ⟨h1, h2⟩ := wipeE_some h
      exact ⟨h1, by simp only [List.mem_cons, not_or]; exact ⟨ne, h2⟩⟩
theorem backE_some {E' E : En} {i : Nat} {b : B} : ∀ {vs : List Nat}, (backE E' E vs)[i]? = some (some b) → (i ∉ vs ∧ E'[i]? = some (some b)) ∨ (∃ d, b = .dat d ∧ E[i]? = some (some b))
  | [], h => .inl ⟨by simp, h⟩
  | v :: vs, h => by
    unfold backE at h
    rcases getset h with ⟨e, e', _⟩ | ⟨ne, h⟩
    · subst e
      split at e'
      · rename_i d hd
        cases e'
        exact .inr ⟨d, rfl, hd⟩
      · cases e'
    · rcases backE_some h with ⟨h1, h2⟩ | h
      · exact .inl ⟨by simp only [List.mem_cons, not_or]; exact ⟨ne, h1⟩, h2⟩
      · exact .inr h
theorem wipe_at {σ : L2.St} {vs : List Nat} {i : Nat} (h : i ∉ vs) : (wipe σ vs)[i]? = σ[i]? := wipe_out h
section
variable {K : PySem.W.Frag} {O G F : Hp} {σ : L2.St} {H : Hp} {E : En}
theorem R.wipe (r : R K O G F σ H E) (vs : List Nat) : R K O G F (L2.wipe σ vs) H (wipeE E vs) := by
  refine ⟨r.g, r.f, r.o, by rw [wipe_length, wipeE_len]; exact r.len, fun i b e => ?_, fun i j a bi bj v w e1 e2 e3 e4 e5 e6 => ?_⟩
  · obtain ⟨e, h⟩ := wipeE_some e
    obtain ⟨v, hv, q⟩ := r.at_ i b e
    exact ⟨v, by rw [wipe_at h]; exact hv, q⟩
  · exact r.nd i j a bi bj v w (wipeE_some e1).1 (wipeE_some e2).1 (wipe_some e3).1 (wipe_some e4).1 e5 e6
/-- out of the block -/
theorem R.back {F' : Hp} {H' : Hp} {E' : En} {vs : List Nat} (r : R K O G F σ H E) (s : Sub F F') (r' : R K O G F' (L2.wipe σ vs) H' E') : R K O G F' σ H' (backE E' E vs) := by
  have own : ∀ {i : Nat} {b : B} {v : V} {a : Addr}, (backE E' E vs)[i]? = some (some b) → σ[i]? = some (some v) → ownA v b = some a → E'[i]? = some (some b) ∧ (L2.wipe σ vs)[i]? = some (some v) := fun {i b v a} e1 e2 e3 => by
    rcases backE_some e1 with ⟨h, e⟩ | ⟨d, e, _⟩
    · exact ⟨e, by rw [wipe_at h]; exact e2⟩
    · subst e; cases v <;> cases e3
  refine ⟨r'.g, r'.f, r'.o, ?_, fun i b e => ?_, fun i j a bi bj v w e1 e2 e3 e4 e5 e6 => ?_⟩
  · rw [backE_len, ← r'.len, wipe_length]
  · rcases backE_some e with ⟨h, e⟩ | ⟨d, e, h⟩
    · obtain ⟨v, hv, q⟩ := r'.at_ i b e
      exact ⟨v, by rw [wipe_at h] at hv; exact hv, q⟩
    · subst e
      obtain ⟨v, hv, q⟩ := r.at_ i _ h
      exact ⟨v, hv, Rep.mono s q⟩
  · obtain ⟨h1, h2⟩ := own e1 e3 e5
    obtain ⟨h3, h4⟩ := own e2 e4 e6
    exact r'.nd i j a bi bj v w h1 h3 h2 h4 e5 e6
theorem wipe_wipe (σ : L2.St) (vs : List Nat) : L2.wipe (L2.wipe σ vs) vs = L2.wipe σ vs := by
  apply List.ext_getElem?
  intro i
  by_cases h : i ∈ vs
  · have key : ∀ (τ : L2.St), τ.length = σ.length → (L2.wipe τ vs)[i]? = if i < σ.length then some none else none := fun τ hl => by
      by_cases hi : i < σ.length
      · rw [if_pos hi]
        cases e : (L2.wipe τ vs)[i]? with
        | none =>
          have := List.getElem?_eq_none_iff.mp e
          rw [wipe_length] at this
          omega
        | some o =>
          cases o with
          | none => rfl
          | some x => exact absurd h (wipe_some e).2
      · rw [if_neg hi]
        exact List.getElem?_eq_none (by rw [wipe_length]; omega)
    rw [key _ (wipe_length σ vs), key σ rfl]
  · rw [wipe_at h]
theorem wipe_set {σ : L2.St} {vs : List Nat} {i : Nat} {x : Option V} (h : i ∈ vs) : L2.wipe (σ.set i x) vs = L2.wipe σ vs := by
  apply List.ext_getElem?
  intro j
  by_cases hj : j ∈ vs
  · have key : ∀ (τ : L2.St), τ.length = σ.length → (L2.wipe τ vs)[j]? = if j < σ.length then some none else none := fun τ hl => by
      by_cases hi : j < σ.length
      · rw [if_pos hi]
        cases e : (L2.wipe τ vs)[j]? with
        | none =>
          have := List.getElem?_eq_none_iff.mp e
          rw [wipe_length] at this
          omega
        | some o =>
          cases o with
          | none => rfl
          | some x => exact absurd hj (wipe_some e).2
      · rw [if_neg hi]
        exact List.getElem?_eq_none (by rw [wipe_length]; omega)
    rw [key _ (by rw [List.length_set]), key σ rfl]
  · rw [wipe_at hj, wipe_at hj, List.getElem?_set_ne (fun (z : i = j) => hj (by rw [← z]; exact h))]
/-- a thing of nobody's is set apart -/
theorem R.hide {D : Addr} {u : HO} (r : R K O G F σ H E) (h : H D = some u) (n : F D = none) (w : ¬ Owned σ E D) : R K (upd O D u) G F σ H E := by
  refine ⟨r.g, r.f, fun a x e => ?_, r.len, fun i b e => ?_, r.nd⟩
  · by_cases z : a = D
    · subst z
      rw [upd_same] at e; cases e
      exact ⟨h, .inl n⟩
    · rw [upd_ne z] at e
      exact r.o a x e
  · obtain ⟨v, hv, q⟩ := r.at_ i b e
    refine ⟨v, hv, q.toO fun a ha => ?_⟩
    have z : a ≠ D := fun z => w (z ▸ ⟨i, b, v, e, hv, ha⟩)
    rw [upd_ne z]
    exact (q.own ha).2.2.1
theorem R.unhide {D : Addr} {u u' : HO} (r : R K (upd O D u) G F σ H E) (n : F D = none) (o : O D = none) : R K O G F σ (upd H D u') E ∧ ¬ Owned σ E D := by
  have w : ¬ Owned σ E D := fun w => by
    have := (r.owned w).2.1
    rw [upd_same] at this; cases this
  refine ⟨⟨r.g, r.f.upd_out _ n, fun a x e => ?_, r.len, fun i b e => ?_, r.nd⟩, w⟩
  · have z : a ≠ D := fun z => by subst z; rw [o] at e; cases e
    have := r.o a x (by rw [upd_ne z]; exact e)
    rw [upd_ne z]
    exact this
  · obtain ⟨v, hv, q⟩ := r.at_ i b e
    refine ⟨v, hv, RB.mono (Sub.refl F) (fun a ha => ?_) (q.toO fun a ha => ?_)⟩
    · have z : a ≠ D := fun z => w (z ▸ ⟨i, b, v, e, hv, ha⟩)
      exact ⟨(q.own ha).2.1, upd_ne z⟩
    · have z : a ≠ D := fun z => w (z ▸ ⟨i, b, v, e, hv, ha⟩)
      have := (q.own ha).2.2.1
      rw [upd_ne z] at this
      exact this
theorem R.unhide0 {D : Addr} {u : HO} (r : R K (upd O D u) G F σ H E) (n : F D = none) (o : O D = none) : R K O G F σ H E ∧ ¬ Owned σ E D ∧ H D = some u := by
  have hD := (r.o D u upd_same).1
  have h := r.unhide (u' := u) n o
  have e : upd H D u = H := by
    funext b
    by_cases z : b = D
    · subst z; rw [upd_same, hD]
    · rw [upd_ne z]
  rw [e] at h
  exact ⟨h.1, h.2, hD⟩
end

/-- a target within a block: of the block's names alone -/
def tGv (K : PySem.W.Frag) (vs : List Nat) (w : WG) : TG := fun v σ H Q => ∃ O G F E d Q', R K O G F σ H E ∧ Rep K F v d ∧ w d E Q' ∧ ∀ σ' H' F' E', L2.wipe σ' vs = L2.wipe σ vs → Sub F F' → R K O G F' σ' H' E' → Q' E' → Q σ' H'
def tGvs (K : PySem.W.Frag) (vs : List Nat) (w : WGs) : TGs := fun us σ H Q => ∃ O G F E ds Q', R K O G F σ H E ∧ RepL K F us ds ∧ w ds E Q' ∧ ∀ σ' H' F' E', L2.wipe σ' vs = L2.wipe σ vs → Sub F F' → R K O G F' σ' H' E' → Q' E' → Q σ' H'
abbrev GvD (X : Cx) (vs : List Nat) (e : Expr) (w : WG) : Prop := PG X e (tGv X.K vs w)
abbrev GvsD (X : Cx) (vs : List Nat) (es : List Expr) (w : WGs) : Prop := PGs X es (tGvs X.K vs w)
section
variable {X : Cx} {pos : Pos} {e : Expr} {es : List Expr} {vs : List Nat}
theorem gvd_n {i : Nat} {x : Str} (hN : X.N.Nodup) (hv : i ∈ vs) (hi : X.N[i]? = some x) (hx : Loc X.env.scope x) (hf : X.fn x = true ∨ X.env.scope.names.lookup x = some .local := by first | exact .inl rfl | exact .inr rfl | assumption) : GvD X vs (.Name x pos) (gN i) := ⟨fun pins s σ H v u Q I rv h => by
  obtain ⟨O, G, F, E, d, Q', r, p, q, k⟩ := h
  refine (pg_name hN hi hx hf).run pins s σ H v u Q I rv ?_
  exact k _ _ F _ (wipe_set hv) (Sub.refl F) (r.set i (datRR p)) q⟩
theorem gvsd_n : GvsD X vs [] gsN := ⟨fun pins s σ H us ws Q I rv h => by
  obtain ⟨O, G, F, E, ds, Q', r, p, ⟨e, q⟩, k⟩ := h
  subst e
  cases p
  exact pgs_nil.run pins s σ H [] ws Q I rv ⟨rfl, k _ _ F _ rfl (Sub.refl F) r q⟩⟩
theorem gvsd_c {w : WG} {ws : WGs} (h1 : GvD X vs e w) (h2 : GvsD X vs es ws) (hs : (assignEach (e :: es) X.env).map (·.2) = assign e X.env :: (assignEach es X.env).map (·.2) := by rfl) : GvsD X vs (e :: es) (gsC w ws) := ⟨fun pins s σ H vs' us Q I rv h => by
  obtain ⟨O, G, F, E, ds, Q', r, p, q, k⟩ := h
  cases p with
  | nil => exact (show False from q).elim
  | cons p1 p2 =>
    rename_i v vs0 d ds
    have q : w d E fun E1 => ws ds E1 Q' := q
    refine (pgs_cons h1 h2 hs).run pins s σ H _ us Q I rv ⟨v, vs0, rfl, ?_⟩
    exact ⟨O, G, F, E, d, _, r, p1, q, fun σ' H' F' E' hw s' r' q' => ⟨O, G, F', E', ds, Q', r', p2.mono s', q', fun σ2 H2 F2 E2 hw2 s2 r2 q2 => k _ _ F2 E2 (hw2.trans hw) (s'.trans s2) r2 q2⟩⟩⟩
theorem gvd_t {k : Nat} {w : WGs} {n : Nat} (hc : X.calm = true) (h : GvsD X vs es w) (hn : (assignEach es X.env).length = n := by rfl) (hst : (assignEach es X.env).findIdx? (·.1) = none := by rfl) : GvD X vs (.Tuple es k pos) (gT n w) := ⟨fun pins s σ H v u Q I rv hq => by
  obtain ⟨O, G, F, E, d, Q', r, p, q, kk⟩ := hq
  cases d with
  | tup ds =>
    obtain ⟨hl, q⟩ := (show ds.length = n ∧ w ds E Q' from q)
    cases p with
    | tup hF p =>
      refine (pg_tup hc h hn hst).run pins s σ H _ u Q I rv ⟨_, _, rfl, SqT.of (r.f.tup hF), p.length.trans hl, ?_⟩
      exact ⟨O, G, F, E, ds, Q', r, p, q, kk⟩
  | _ => exact (show False from q).elim⟩
end
/-- tests of a clause -/
abbrev TsD (X : Cx) (ifs : List Expr) (w : WT) : Prop := PTs X ifs (tT X.K w)
def wYes : WT := fun E Q => Q true E
section
variable {X : Cx} {c : Expr}
theorem tsd_n : TsD X [] wYes := ⟨fun pins s σ H Q I hq => by
  obtain ⟨O, G, F, E, Q', r, hw, kk⟩ := hq
  exact pts_nil.run pins s σ H Q I (kk true H F E (Sub.refl F) r hw)⟩
theorem tsd_1 {w : WT} (h : TD X c w) : TsD X [c] w := pts_one h
end
def wLc (wi : WI) (wg : WG) (wt : WT) (we : WE) (vs : List Nat) : WE := fun E Q => wi E fun ds E1 => ∃ W : Nat → List D → En → Prop, W 0 [] (wipeE E1 vs) ∧
  (∀ i d acc E', ds[i]? = some d → W i acc E' → wg d E' fun E2 => wt E2 fun b E3 => if b = true then we E3 fun y E4 => acc.length < 16777216 ∧ W (i + 1) (acc ++ [y.d]) (wipeE E4 vs) else W (i + 1) acc (wipeE E3 vs)) ∧
  ∀ acc E', W ds.length acc E' → Q (.own (.lst acc)) (backE E' E1 vs)
section
variable {K : PySem.W.Frag}
theorem ok_lcK {wi : WI} {wg : WG} {wt : WT} {we : WE} {vs : List Nat} {O G F : Hp} {σ : L2.St} {H : Hp} {E : En} {Q : B → En → Prop} {Qv : VK} (r : R K O G F σ H E) (h : wLc wi wg wt we vs E Q)
    (kv : ∀ v H' F' E' b, Sub F F' → R K O G F' σ H' E' → RR K O F' σ H' E' v b → Q b E' → Qv v H') : tLc (tI K wi) (tGv K vs wg) (tT K wt) (tE K we) vs σ H Qv := by
  refine tI_bind r h fun J H1 F1 E1 ds s1 r1 g ⟨W, w0, turn, done⟩ => ?_
  intro D hD
  have nD := r1.f.gone hD
  have oD := r1.oNone hD
  refine ⟨fun i m H => m = ds.length - i ∧ i ≤ ds.length ∧ ∃ F E acc xs, Sub F1 F ∧ F D = none ∧ R K (upd O D (.lst xs)) F1 F (L2.wipe σ vs) H E ∧ RepL K F xs acc ∧ W i acc E, ⟨_, rfl, Nat.zero_le _, F1, _, [], [], Sub.refl F1, nD, ?_, .nil, w0⟩, ?_⟩
  · have r2 := ((r1.alloc (u := .lst []) hD).wipe vs)
    have r3 := r2.hide upd_same nD (fun w => by
      obtain ⟨i, b, v, e1, e2, e3⟩ := w
      exact r1.notOwned hD ⟨i, b, v, (wipeE_some e1).1, (wipe_some e2).1, e3⟩)
    exact ⟨Sub.refl F1, r3.f, r3.o, r3.len, r3.at_, r3.nd⟩
  · rintro i m H2 ⟨rfl, hi, F2, E2, acc, xs, s2, n2, r2, p2, w2⟩
    by_cases hlt : i < ds.length
    · refine .inr ⟨g.go _ F2 _ H2 E2 i r2 hlt, _, fun H' h => h, fun x H3 y => ?_⟩
      obtain ⟨F3, d, s3, r3, p3, e3⟩ := g.yld _ F2 _ H2 E2 i x H3 r2 hlt y
      refine ⟨_, _, F3, E2, d, _, r3, p3, turn i d acc E2 e3 w2, fun σ4 H4 F4 E4 hw4 s4 r4 q4 => ?_⟩
      rw [wipe_wipe] at hw4
      refine ⟨hw4, tT_bind r4 q4 fun b H5 F5 E5 s5 r5 q5 => ?_⟩
      -- the new list is not known to F
      have keep : ∀ {F' H' E'} {xs : List V}, R K (upd O D (.lst xs)) F1 F' σ4 H' E' → F' D = none := fun {F' H' E' xs} r' => by
        rcases (r'.o D _ upd_same).2 with z | z
        · exact z
        · cases z
      cases b with
      | true =>
        have q5 : we E5 fun y E4 => acc.length < 16777216 ∧ W (i + 1) (acc ++ [y.d]) (wipeE E4 vs) := q5
        refine tE_bind r5 q5 fun z H6 F6 E6 b6 s6 r6 p6 q6 => ?_
        obtain ⟨F7, s7, r7, p7⟩ := r6.frz p6
        have n7 := keep r7
        have pl : RepL K F7 xs acc := p2.mono (((s3.trans s4).trans s5).trans (s6.trans s7))
        refine ⟨xs, (r7.o D _ upd_same).1, by rw [pl.length, line_eq]; exact q6.1, ds.length - (i + 1), by omega, rfl, hlt, F7, wipeE E6 vs, acc ++ [b6.d], xs ++ [z], (((s2.trans s3).trans s4).trans s5).trans (s6.trans s7), n7, ?_, pl.append (.cons p7 .nil), q6.2⟩
        obtain ⟨r8, w8⟩ := r7.unhide (u' := .lst (xs ++ [z])) n7 oD
        have r9 := (r8.wipe vs)
        rw [hw4] at r9
        refine r9.hide upd_same n7 fun w => w8 ?_
        obtain ⟨j, b, v, e1, e2, e3⟩ := w
        rw [← hw4] at e2
        exact ⟨j, b, v, (wipeE_some e1).1, (wipe_some e2).1, e3⟩
      | false =>
        have q5 : W (i + 1) acc (wipeE E5 vs) := q5
        refine ⟨ds.length - (i + 1), by omega, rfl, hlt, F5, wipeE E5 vs, acc, xs, ((s2.trans s3).trans s4).trans s5, keep r5, ?_, p2.mono ((s3.trans s4).trans s5), q5⟩
        have r9 := r5.wipe vs
        rw [hw4] at r9
        exact r9
    · have e : i = ds.length := by omega
      subst e
      refine .inl ⟨g.stop _ F2 _ H2 E2 r2, ?_⟩
      obtain ⟨r3, w3, hD2⟩ := r2.unhide0 n2 oD
      have r3 : R K O G F2 (L2.wipe σ vs) H2 E2 := ⟨r1.g.trans r3.g, r3.f, r3.o, r3.len, r3.at_, r3.nd⟩
      have r4 := r1.back s2 r3
      refine kv _ _ F2 _ (.own (.lst acc)) (s1.trans s2) r4 ⟨⟨D, rfl, n2, oD, xs, hD2, p2⟩, fun a ea w => ?_⟩ (done acc E2 w2)
      cases ea
      obtain ⟨j, b, v, e1, e2, e3⟩ := w
      rcases backE_some e1 with ⟨h1, h2⟩ | ⟨d, h1, _⟩
      · exact w3 ⟨j, b, v, h2, by rw [wipe_at h1]; exact e2, e3⟩
      · subst h1; cases v <;> cases e3
theorem ok_lc {wi : WI} {wg : WG} {wt : WT} {we : WE} {vs : List Nat} : EOk K (tLc (tI K wi) (tGv K vs wg) (tT K wt) (tE K we) vs) (wLc wi wg wt we vs) := fun O G F σ H E Q r h => ok_lcK r h fun v H' F' E' b s r' p q => ⟨F', E', b, s, r', p, q⟩
end
section
variable {X : Cx}
theorem ed_lc {elt tg iter : Expr} {ifs : List Expr} {scope : Scope} {own : List (Str × Nat)} {pos : Pos} {wi : WI} {wg : WG} {wt : WT} {we : WE} {vs : List Nat} (hc : X.calm = true) (hN : X.N.Nodup) (hvs : own.map (·.2) = vs) (hi : ID X tg iter wi) (ok : BlkOk X.N X.env.scope scope own)
    (hg : ∀ (s : Shared) (H : Hp) (C : Addr) (cl : List (Str × Addr)) (fp : List Addr), GvD (X.blk s H scope (compEnvC scope cl C X.env) fp) vs tg wg) (ht : ∀ (s : Shared) (H : Hp) (C : Addr) (cl : List (Str × Addr)) (fp : List Addr), TsD (X.blk s H scope (compEnvC scope cl C X.env) fp) ifs wt)
    (he : ∀ (s : Shared) (H : Hp) (C : Addr) (cl : List (Str × Addr)) (fp : List Addr), ED (X.blk s H scope (compEnvC scope cl C X.env) fp) elt we) (hs : ∀ x, foldedSetIterable iter X.env x = pure x := by intro _; rfl) :
    ED X (.ListComp elt [⟨tg, iter, ifs, 0⟩] scope pos) (wLc wi wg wt we vs) := by
  subst hvs
  exact ed_of (pe_lc hc hN hi ok hg ht he hs) ok_lc
/-- name = [..] on one line -/
theorem sd_setLc {i : Nat} {y : Str} {py : Pos} {elt tg iter : Expr} {ifs : List Expr} {scope : Scope} {own : List (Str × Nat)} {pos spos : Pos} {wi : WI} {wg : WG} {wt : WT} {we : WE} {vs : List Nat} (hc : X.calm = true) (hN : X.N.Nodup) (hvs : own.map (·.2) = vs) (hy : X.N[i]? = some y) (hyl : X.env.scope.names.lookup y = some .local)
    (hsw : swapsWith (.ListComp elt [⟨tg, iter, ifs, 0⟩] scope pos) (some (.Name y py)) spos.line X.env = pure true) (hi : ID X tg iter wi) (ok : BlkOk X.N X.env.scope scope own)
    (hg : ∀ (s : Shared) (H : Hp) (C : Addr) (cl : List (Str × Addr)) (fp : List Addr), GvD (X.blk s H scope (compEnvC scope cl C X.env) fp) vs tg wg) (ht : ∀ (s : Shared) (H : Hp) (C : Addr) (cl : List (Str × Addr)) (fp : List Addr), TsD (X.blk s H scope (compEnvC scope cl C X.env) fp) ifs wt)
    (he : ∀ (s : Shared) (H : Hp) (C : Addr) (cl : List (Str × Addr)) (fp : List Addr), ED (X.blk s H scope (compEnvC scope cl C X.env) fp) elt we) (hs : ∀ x, foldedSetIterable iter X.env x = pure x := by intro _; rfl) :
    SD X (.Assign [.Name y py] (.ListComp elt [⟨tg, iter, ifs, 0⟩] scope pos) spos) (sSet i (wLc wi wg wt we vs)) := by
  subst hvs
  refine sd_of (ps_setLc (g := tGv X.K (own.map (·.2)) wg) (tt := tT X.K wt) (te := tE X.K we) hc hN hy hyl hsw hi ok hg ht he hs) fun O G F σ H E D D' en r h => ?_
  exact ok_lcK r h fun v H' F' E' b s r' p q => en.nx _ _ _ _ (r'.set i p) q
end
end PW

set_option Elab.async false
set_option linter.all false
set_option autoImplicit false
set_option maxRecDepth 100000
set_option maxHeartbeats 4000000
namespace PW
open PySem PySem.Spec PyProof.Rows L2

/-! ### isinstance -/
def tyName : D → String
  | .non => "NoneType" | .bl _ => "bool" | .int _ => "int" | .str _ => "str" | .tup _ => "tuple" | .lst _ => "list" | .dct _ _ => "dict" | .scr _ => "list"
def isiT (n t : String) : Bool := t == n || (n == "int" && t == "bool")
def isiD (n : String) (d : D) : Bool := isiT n (tyName d)
def wIsi (n : String) (x : D) (Q : B → Prop) : Prop := Q (.dat (.bl (isiD n x)))
section
variable {X : Cx} {pins : List (Addr × Obj)} {σ : L2.St} {H : Hp} {s : Shared}
theorem kit_ofD {d : D} {x : V} {u : Value} (I : Inv X pins σ H s) (rx : RelV x u) (h : Rep X.K H x d) : ∃ P : Heap → Prop, PySem.W.KitX X.K u (.type (tyName d)) P ∧ P s.heap ∧ u ≠ .builtin "__main__.__loader__#opaque" := by
  cases h with
  | non => exact kit_of I rx (.base .non)
  | bl b => exact kit_of I rx (.base (.bl b))
  | int i => exact kit_of I rx (.base (.int i))
  | str l => exact kit_of I rx (.base (.str _))
  | tup e _ => exact kit_of I rx (.base (.tup e))
  | lst e _ => exact kit_of I rx (.base (.lst e))
  | @dK a kv kd e _ =>
    cases (show u = Value.ref a from rx)
    obtain ⟨_, _, vs, _, o, es, ep, h1, h2, _⟩ := dk_rd I.hok e
    exact ⟨_, PySem.W.kitx_dict, ⟨o, h1, h2.1⟩, fun z => nomatch z⟩
  | @dT a kv kd e _ =>
    cases (show u = Value.ref a from rx)
    obtain ⟨_, _, vs, _, o, es, ep, h1, h2, _⟩ := dt_rd I.hok e
    exact ⟨_, PySem.W.kitx_dict, ⟨o, h1, h2.1⟩, fun z => nomatch z⟩
  | @scr a ns e =>
    cases (show u = Value.ref a from rx)
    obtain ⟨its, rv, ⟨o, n, h1, h2, _⟩, _⟩ := I.list e
    exact ⟨_, PySem.W.kitx_list, ⟨o, h1, h2⟩, fun z => nomatch z⟩
abbrev rIsiD (K : PySem.W.Frag) (n : String) : List V → Hp → VK → Prop := fun xs H Q => ∃ (x : V) (d : D), xs = [x, .ty n] ∧ Rep K H x d ∧ kitB (tyName d) n = some (isiD n d) ∧ Q (.bl (isiD n d)) H
theorem call_isiD {n : String} : CallR X (.builtin "isinstance") (rIsiD X.K n) := by
  intro pins s σ H xs us Q I r h
  obtain ⟨x, d, rfl, h, e, q⟩ := h
  obtain ⟨u1, u2, rfl, r1, r2⟩ := vals2 r
  cases r2
  obtain ⟨P, Z, p, hx⟩ := kit_ofD I r1 h
  exact PySem.W.kia_one Z I.kIn p (kit_ty e) hx fun tk => ⟨.bl _, H, I.tok tk, rfl, q⟩
def isiOk (n : String) : Prop := ∀ d : D, kitB (tyName d) n = some (isiD n d)
theorem isi_of {n : String} (h : (["NoneType", "bool", "int", "str", "tuple", "list", "dict"].all fun t => kitB t n == some (isiT n t)) = true) : isiOk n := fun d => by
  have key : ∀ t ∈ ["NoneType", "bool", "int", "str", "tuple", "list", "dict"], kitB t n = some (isiT n t) := fun t ht => by
    have := List.all_eq_true.mp h t ht
    exact eq_of_beq this
  cases d <;> exact key _ (by simp [tyName])
theorem isi_dict : isiOk "dict" := isi_of (by decide +kernel)
theorem isi_list : isiOk "list" := isi_of (by decide +kernel)
theorem isi_tuple : isiOk "tuple" := isi_of (by decide +kernel)
theorem isi_bool : isiOk "bool" := isi_of (by decide +kernel)
theorem isi_str : isiOk "str" := isi_of (by decide +kernel)
theorem isi_int : isiOk "int" := isi_of (by decide +kernel)
theorem ed_isi {n : String} {wo : WO} {e : Expr} {x y : Str} {p p2 pos : Pos} (hn0 : isiOk n) (hg : Gl X x) (hm : X.mg x = none) (hv : bootBuiltins x = some (.builtin "isinstance")) (hg2 : Gl X y) (hm2 : X.mg y = none) (hv2 : bootBuiltins y = some (.type n)) (ha : OD X e wo)
    (hn : x ≠ "__name__" := by decide) (hdb : (x == ("__debug__" : Str)) = false := by decide) (hn2 : y ≠ "__name__" := by decide) (hdb2 : (y == ("__debug__" : Str)) = false := by decide)
    (hs : starEach [e, .Name y p2] X.env = (false, eval e X.env) :: starEach [.Name y p2] X.env := by rfl) (hs2 : starEach [.Name y p2] X.env = (false, eval (.Name y p2) X.env) :: starEach [] X.env := by rfl)
    (hpl : (backTo pos (starEach [.Name y p2] X.env)).any (·.1) = false := by rfl) : ED X (.Call (.Name x p) [e, .Name y p2] [] pos) (wUn (wIsi n) wo) := by
  refine ed_of (pe_callB call_isiD hg hm hv (pa_cons ha (pa_cons (pe_bltn (v := .ty n) hg2 hm2 hv2 rfl hn2 hdb2) pa_nil hs2) hs) hn hdb hs hpl) (ok_un (r := fun x H Q => rIsiD X.K n [x, .ty n] H Q) ?_)
  intro O G F σ H E x dx Q Q' r hx q k
  exact ⟨x, dx, rfl, hx.rep r.f, hn0 dx, k _ _ (.dat r (.bl _) q)⟩
end

/-! ### a list or dict of ours is changed -/
/-- x.m(e), x.m(): what it hands back, what becomes of x -/
abbrev WM1 := D → D → (D → D → Prop) → Prop
abbrev WM0 := D → (D → D → Prop) → Prop
def tyD (T : String) (d : D) : Prop := match d with
  | .lst _ => T = "list"
  | .dct _ _ => T = "dict"
  | _ => False
def tyE (T : String) (E : En) (i : Nat) : Prop := match E[i]? with
  | some (some b) => tyD T b.d ∧ b.mu = true
  | _ => False
def wMut1 (T : String) (i : Nat) (m : WM1) (we : WE) : WE := fun E Q => tyE T E i ∧ we E fun y E1 => match E1[i]? with
  | some (some b) => b.mu = true ∧ m b.d y.d fun res new => Q (.dat res) (E1.set i (some (b.put new)))
  | _ => False
def wMut0 (T : String) (i : Nat) (m : WM0) : WE := fun E Q => match E[i]? with
  | some (some b) => (tyD T b.d ∧ b.mu = true) ∧ m b.d fun res new => Q (.dat res) (E.set i (some (b.put new)))
  | _ => False
/-- behind a change of the cell at a -/
def OutM (K : PySem.W.Frag) (O G F : Hp) (σ : L2.St) (E : En) (i : Nat) (b : B) (Q : D → D → Prop) : VK := fun v H' => ∃ F' res new, Sub F F' ∧ R K O G F' σ H' (E.set i (some (b.put new))) ∧ Rep K F' v res ∧ Q res new
def Mt1Ok (K : PySem.W.Frag) (r : V → List V → Hp → VK → Prop) (m : WM1) : Prop := ∀ O G F σ H E i b a y dy (Q : D → D → Prop) (Q' : VK), R K O G F σ H E → E[i]? = some (some b) → σ[i]? = some (some (.ref a)) → ownA (.ref a) b = some a → Cell K F H a b.d → Rep K F y dy → m b.d dy Q →
  (∀ v H', OutM K O G F σ E i b Q v H' → Q' v H') → r (.ref a) [y] H Q'
def Mt0Ok (K : PySem.W.Frag) (r : V → List V → Hp → VK → Prop) (m : WM0) : Prop := ∀ O G F σ H E i b a (Q : D → D → Prop) (Q' : VK), R K O G F σ H E → E[i]? = some (some b) → σ[i]? = some (some (.ref a)) → ownA (.ref a) b = some a → Cell K F H a b.d → m b.d Q →
  (∀ v H', OutM K O G F σ E i b Q v H' → Q' v H') → r (.ref a) [] H Q'
section
variable {K : PySem.W.Frag}
theorem Cell.mkL {F H : Hp} {a : Addr} {vs : List V} {ds : List D} (p : RepL K F vs ds) : Cell K F (upd H a (.lst vs)) a (.lst ds) := ⟨vs, upd_same, p⟩
theorem Cell.mkK {F H : Hp} {a : Addr} {kv : List (Key × V)} {kd : List (D × D)} (p : RepK K F kv kd) : Cell K F (upd H a (.dK kv)) a (.dct false kd) := ⟨kv, upd_same, p⟩
theorem Cell.mkT {F H : Hp} {a : Addr} {kv : List (List Key × V)} {kd : List (D × D)} (p : RepT K F kv kd) : Cell K F (upd H a (.dT kv)) a (.dct true kd) := ⟨kv, upd_same, p⟩
theorem R.cellAt {O G F : Hp} {σ : L2.St} {H : Hp} {E : En} {i : Nat} {b : B} (r : R K O G F σ H E) (h : E[i]? = some (some b)) (hm : b.mu = true) : ∃ a, σ[i]? = some (some (.ref a)) ∧ ownA (.ref a) b = some a ∧ Cell K F H a b.d ∧ F a = none := by
  obtain ⟨v, hv, q⟩ := r.at_ i b h
  cases b with
  | dat d => cases hm
  | own d => obtain ⟨a, e, n, _, c⟩ := q; subst e; exact ⟨a, hv, rfl, c, n⟩
  | par a d => obtain ⟨e, n, _, c⟩ := q; subst e; exact ⟨a, hv, rfl, c, n⟩
theorem Cell.ty {F H : Hp} {a : Addr} {d : D} {T : String} (c : Cell K F H a d) (h : tyD T d) : tyV K T (.ref a) H := by
  cases d with
  | lst l => obtain ⟨vs, e, _⟩ := c; exact .inl ⟨h, vs, SqL.of e⟩
  | dct t l =>
    cases t with
    | false => obtain ⟨kv, e, _⟩ := c; exact .inr (.inr (.inl ⟨h, .inl ⟨kv, e⟩⟩))
    | true => obtain ⟨kv, e, _⟩ := c; exact .inr (.inr (.inl ⟨h, .inr ⟨kv, e⟩⟩))
  | _ => exact c.elim
theorem ok_mut1 {T : String} {i : Nat} {m : WM1} {r : V → List V → Hp → VK → Prop} {we : WE} (hk : Mt1Ok K r m) : EOk K (tBM K T r (tVar i) (tCons (tE K we) tNil)) (wMut1 T i m we) := fun O G F σ H E Q r0 ⟨ht, q⟩ => by
  unfold tyE at ht
  split at ht
  · rename_i b0 h0
    obtain ⟨a, hv, ho, c, n⟩ := r0.cellAt h0 ht.2
    refine ⟨_, hv, c.ty ht.1, ?_⟩
    refine tE_bind r0 q fun y H1 F1 E1 by_ s1 r1 p1 q1 => ?_
    obtain ⟨F2, s2, r2, p2⟩ := r1.frz p1
    split at q1
    · rename_i b h
      obtain ⟨a', hv', ho', c', n'⟩ := r2.cellAt h q1.1
      rw [hv] at hv'; cases hv'
      refine hk O G F2 σ H1 E1 i b a y _ _ _ r2 h hv ho' c' p2 q1.2 fun v H' ⟨F3, res, new, s3, r3, p3, q3⟩ => ?_
      exact ⟨F3, _, .dat res, (s1.trans s2).trans s3, r3, datRR p3, q3⟩
    · exact q1.elim
  · exact ht.elim
theorem ok_mut0 {T : String} {i : Nat} {m : WM0} {r : V → List V → Hp → VK → Prop} (hk : Mt0Ok K r m) : EOk K (tBM0 K T r (tVar i)) (wMut0 T i m) := fun O G F σ H E Q r0 q => by
  unfold wMut0 at q
  split at q
  · rename_i b h
    obtain ⟨a, hv, ho, c, n⟩ := r0.cellAt h q.1.2
    refine ⟨_, hv, c.ty q.1.1, ?_⟩
    refine hk O G F σ H E i b a _ _ r0 h hv ho c q.2 fun v H' ⟨F3, res, new, s3, r3, p3, q3⟩ => ?_
    exact ⟨F3, _, .dat res, s3, r3, datRR p3, q3⟩
  · exact q.elim
def mAppend : WM1 := fun d y Q => match d with
  | .lst l => l.length < 16777216 ∧ Q .non (.lst (l ++ [y]))
  | _ => False
def mExtend : WM1 := fun d y Q => match d, y with
  | .lst l, .lst m => l.length + m.length ≤ 16777216 ∧ Q .non (.lst (l ++ m))
  | _, _ => False
def mPop0 : WM0 := fun d Q => match d with
  | .lst l => ∃ x, l[l.length - 1]? = some x ∧ Q x (.lst l.dropLast)
  | _ => False
def mPop1 : WM1 := fun d y Q => match d, y with
  | .lst l, .int i => (-(2 ^ 63) ≤ i ∧ i < 2 ^ 63) ∧ ∃ k x, seqIndex? i l.length = some k ∧ l[k]? = some x ∧ Q x (.lst (l.eraseIdx k))
  | _, _ => False
theorem k_append : Mt1Ok K rAppend mAppend := by
  intro O G F σ H E i b a y dy Q Q' r h hv ho c py q k
  unfold mAppend at q
  split at q
  · rename_i l hl
    rw [hl] at c
    obtain ⟨vs, e, p⟩ := c
    refine ⟨a, vs, y, rfl, rfl, e, by rw [p.length, line_eq]; exact q.1, k _ _ ⟨F, .non, _, Sub.refl F, r.write h hv ho (Cell.mkL (p.append (.cons py .nil))), .non, q.2⟩⟩
  · exact q.elim
theorem k_extend : Mt1Ok K rExtend mExtend := by
  intro O G F σ H E i b a y dy Q Q' r h hv ho c py q k
  unfold mExtend at q
  split at q
  · rename_i l m hl
    rw [hl] at c
    obtain ⟨vs, e, p⟩ := c
    cases py with
    | lst e2 p2 =>
      refine ⟨a, _, vs, _, rfl, rfl, e, r.f.lst e2, by rw [p.length, p2.length, line_eq]; exact q.1, k _ _ ⟨F, .non, _, Sub.refl F, r.write h hv ho (Cell.mkL (p.append p2)), .non, q.2⟩⟩
  · exact q.elim
theorem k_pop0 : Mt0Ok K rPop mPop0 := by
  intro O G F σ H E i b a Q Q' r h hv ho c q k
  unfold mPop0 at q
  split at q
  · rename_i l hl
    rw [hl] at c
    obtain ⟨vs, e, p⟩ := c
    obtain ⟨x, hx, q⟩ := q
    obtain ⟨v, hv2, px⟩ := p.get hx
    refine ⟨a, vs, v, rfl, rfl, e, by rw [p.length]; exact hv2, k _ _ ⟨F, x, _, Sub.refl F, r.write h hv ho (Cell.mkL p.dropLast), px, q⟩⟩
  · exact q.elim
theorem k_pop1 : Mt1Ok K rPopAt mPop1 := by
  intro O G F σ H E i b a y dy Q Q' r h hv ho c py q k
  unfold mPop1 at q
  split at q
  · rename_i l m hl
    rw [hl] at c
    obtain ⟨vs, e, p⟩ := c
    obtain ⟨hm, j, x, hj, hx, q⟩ := q
    cases py
    obtain ⟨v, hv2, px⟩ := p.get hx
    refine ⟨a, vs, m, j, v, rfl, rfl, e, hm.1, hm.2, by rw [p.length]; exact hj, hv2, k _ _ ⟨F, x, _, Sub.refl F, r.write h hv ho (Cell.mkL (p.eraseIdx j)), px, q⟩⟩
  · exact q.elim
end
section
variable {X : Cx} {e : Expr} {apos cpos p : Pos} {y : Str}
theorem ed_append {i : Nat} {we : WE} (ho : PE X (.Name y p) (tVar i)) (ha : ED X e we) (hbase : attributeBase (.Name y p) "append" X.env (eval (.Name y p) X.env) = eval (.Name y p) X.env := by rfl)
    (hfew : ((backTo cpos (starEach [e] X.env)).all (fun x => !x.1) && (backToKw cpos (keywordEach [] X.env)).all (fun x => x.1.isSome)
      && decide ([e].length + ([] : List Keyword).length + (if ([] : List Keyword).isEmpty then 0 else 1) < 30)) = true := by rfl)
    (hline : (apos.endLine == cpos.line) = true := by rfl) (hs : starEach [e] X.env = (false, eval e X.env) :: starEach [] X.env := by rfl) : ED X (.Call (.Attribute (.Name y p) "append" apos) [e] [] cpos) (wMut1 "list" i mAppend we) :=
  ed_of (pe_bm PySem.F.plainAttrs_list PySem.F.slot_list_append PySem.F.type_list_append mt_append ho (pa_cons ha pa_nil hs) hbase hfew hline hs) (ok_mut1 k_append)
theorem ed_extend {i : Nat} {we : WE} (ho : PE X (.Name y p) (tVar i)) (ha : ED X e we) (hbase : attributeBase (.Name y p) "extend" X.env (eval (.Name y p) X.env) = eval (.Name y p) X.env := by rfl)
    (hfew : ((backTo cpos (starEach [e] X.env)).all (fun x => !x.1) && (backToKw cpos (keywordEach [] X.env)).all (fun x => x.1.isSome)
      && decide ([e].length + ([] : List Keyword).length + (if ([] : List Keyword).isEmpty then 0 else 1) < 30)) = true := by rfl)
    (hline : (apos.endLine == cpos.line) = true := by rfl) (hs : starEach [e] X.env = (false, eval e X.env) :: starEach [] X.env := by rfl) : ED X (.Call (.Attribute (.Name y p) "extend" apos) [e] [] cpos) (wMut1 "list" i mExtend we) :=
  ed_of (pe_bm PySem.F.plainAttrs_list PySem.F.slot_list_extend PySem.F.type_list_extend mt_extend ho (pa_cons ha pa_nil hs) hbase hfew hline hs) (ok_mut1 k_extend)
theorem ed_pop0 {i : Nat} (ho : PE X (.Name y p) (tVar i)) (hbase : attributeBase (.Name y p) "pop" X.env (eval (.Name y p) X.env) = eval (.Name y p) X.env := by rfl) (hline : (apos.endLine == cpos.line) = true := by rfl) :
    ED X (.Call (.Attribute (.Name y p) "pop" apos) [] [] cpos) (wMut0 "list" i mPop0) := ed_of (pe_bm0 PySem.F.plainAttrs_list PySem.F.slot_list_pop PySem.F.type_list_pop mt_pop ho hbase hline) (ok_mut0 k_pop0)
end

/-! ### o[i] = v -/
def setD (o i v : D) (Q : D → Prop) : Prop := match o with
  | .lst l => match i with
    | .int k => ∃ j, ixN l.length k = some j ∧ Q (.lst (l.set j v))
    | _ => False
  | .dct t kd => keyOk t i = true ∧ kd.length < 16777216 ∧ Q (.dct t (putD kd i v))
  | _ => False
def sSub (i : Nat) (wi we : WE) : WS := fun D E => we E fun v E1 => hasE E1 i ∧ wi E1 fun k E2 => match E2[i]? with
  | some (some b) => b.mu = true ∧ setD b.d k.d v.d fun new => D.nx (E2.set i (some (b.put new)))
  | _ => False
section
variable {X : Cx}
abbrev rSetDct : V → V → V → Hp → (Hp → Prop) → Prop := fun o i v H Q => ∃ a H', o = .ref a ∧ DPut H a i v H' ∧ Q H'
theorem set_dct (hu : X.A.units + 1 < cLine) : PSet X rSetDct := by
  intro pins s σ H o i v ov iv u Q I ro ri rv h
  obtain ⟨a, H', rfl, g, q⟩ := h
  cases ro
  exact d_setItem hu I g ri rv fun s4 I4 => ⟨H', I4, q⟩
abbrev rSetAll : V → V → V → Hp → (Hp → Prop) → Prop := fun o i v H Q => rSetL o i v H Q ∨ rSetDct o i v H Q
theorem set_all (hu : X.A.units + 1 < cLine) : PSet X rSetAll := by
  intro pins s σ H o i v ov iv u Q I ro ri rv h
  rcases h with h | h
  · exact set_list pins s σ H o i v ov iv u Q I ro ri rv h
  · exact set_dct hu pins s σ H o i v ov iv u Q I ro ri rv h
theorem sd_sub {i : Nat} {y : Str} {p tpos pos : Pos} {k e : Expr} {wi we : WE} (hu : X.A.units + 1 < cLine) (ho : PE X (.Name y p) (tVar i)) (hi : ED X k wi) (he : ED X e we)
    (ha : ∀ v, assign (.Subscript (.Name y p) k tpos) X.env v = (do
      let ov ← holding [v] (eval (.Name y p) X.env)
      let iv ← holding [v, ov] (eval k X.env)
      standAt tpos
      holding [v, ov, iv] (setItem ov iv v)
      release [v, ov, iv] []) := by intro _; rfl)
    (hs : swapsWithSole [.Subscript (.Name y p) k tpos] e pos.line X.env = pure false := by rfl) (hw : swappedStores [.Subscript (.Name y p) k tpos] e X.env = pure none := by rfl)
    (h1 : (assignEach [.Subscript (.Name y p) k tpos] X.env).map (·.2) = [assign (.Subscript (.Name y p) k tpos) X.env] := by rfl) : SD X (.Assign [.Subscript (.Name y p) k tpos] e pos) (sSub i wi we) :=
  sd_of (ps_asg he (pg_sub ho hi (set_all hu) ha) hs hw h1) fun O G F σ H E D D' en r h => by
    refine tE_bind r h fun v H1 F1 E1 b s1 r1 p1 q1 => ?_
    obtain ⟨F2, s2, r2, p2⟩ := r1.frz p1
    obtain ⟨hE, q1⟩ := q1
    obtain ⟨b0, hb0⟩ := hasE_of hE
    obtain ⟨w, hw, _⟩ := r2.at_ i b0 hb0
    refine ⟨w, hw, ?_⟩
    refine tE_bind r2 q1 fun kv H3 F3 E3 kb s3 r3 p3 q3 => ?_
    obtain ⟨F4, s4, r4, p4⟩ := r3.frz p3
    split at q3
    · rename_i b h
      obtain ⟨a, hv, ho, c, n⟩ := r4.cellAt h q3.1
      rw [hw] at hv; cases hv
      have q := q3.2
      have pv := p2.mono (s3.trans s4)
      unfold setD at q
      split at q
      · rename_i l hl
        rw [hl] at c
        obtain ⟨vs, e, p⟩ := c
        split at q
        · rename_i kk hk
          rw [hk] at p4
          cases p4
          obtain ⟨j, hj, q⟩ := q
          exact .inl ⟨a, vs, kk, j, rfl, rfl, e, by rw [p.length]; exact hj, en.nx _ _ _ _ (r4.write h hw ho (Cell.mkL (p.set pv j))) q⟩
        · exact q.elim
      · rename_i t kd hl
        rw [hl] at c
        obtain ⟨ok, hz, q⟩ := q
        cases t with
        | false =>
          obtain ⟨kvs, e, p⟩ := c
          obtain ⟨key, e1, e2⟩ := p4.key ok
          rw [e1] at q
          subst e2
          refine .inr ⟨a, _, rfl, .inl ⟨kvs, key, e, rfl, by rw [p.length, line_eq]; exact hz, rfl⟩, en.nx _ _ _ _ (r4.write h hw ho (Cell.mkK (p.put pv key))) q⟩
        | true =>
          obtain ⟨kvs, e, p⟩ := c
          obtain ⟨key, b2, e1, e2, e3⟩ := p4.keyT ok
          rw [e1] at q
          subst e2
          refine .inr ⟨a, _, rfl, .inr ⟨kvs, key, b2, e, rfl, r4.f.tup e3, by rw [p.length, line_eq]; exact hz, rfl⟩, en.nx _ _ _ _ (r4.write h hw ho (Cell.mkT (p.put pv key))) q⟩
      · exact q.elim
    · exact q3.elim
end

/-! ### dict displays -/
def wDct0 (t : Bool) : WE := fun E Q => Q (.own (.dct t [])) E
def wPairs : List (WE × WE) → En → (List (D × D) → En → Prop) → Prop
  | [], E, Q => Q [] E
  | (wk, wv) :: r, E, Q => wk E fun k E1 => wv E1 fun v E2 => wPairs r E2 fun ps E3 => Q ((k.d, v.d) :: ps) E3
def wDisp (ws : List (WE × WE)) : WE := fun E Q => wPairs ws E fun ps E1 => (ps.all fun p => keyOk false p.1) = true ∧ ps.length ≤ 15 ∧ Q (.own (.dct false (ps.foldl (fun acc p => putD acc p.1 p.2) []))) E1
section
variable {X : Cx} {pos : Pos}
theorem ed_dct0 : ED X (.Dict [] [] pos) (wDct0 false) := ed_of pe_dnewK fun O G F σ H E Q r q p hp => by
  obtain ⟨F', b, s, r', q', h⟩ := OutB.dctK (Q := fun b => Q b E) (kv := []) (kd := []) r hp .nil q
  exact ⟨F', E, b, s, r', q', h⟩
theorem ed_dctT : ED X (.Dict [] [] pos) (wDct0 true) := ed_of pe_dnewT fun O G F σ H E Q r q p hp => by
  obtain ⟨F', b, s, r', q', h⟩ := OutB.dctT (Q := fun b => Q b E) (kv := []) (kd := []) r hp .nil q
  exact ⟨F', E, b, s, r', q', h⟩
end

inductive RepPP (K : PySem.W.Frag) (F : Hp) : List (V × V) → List (D × D) → Prop
  | nil : RepPP K F [] []
  | cons {k v : V} {vs : List (V × V)} {dk dv : D} {ds : List (D × D)} : Rep K F k dk → Rep K F v dv → RepPP K F vs ds → RepPP K F ((k, v) :: vs) ((dk, dv) :: ds)
theorem RepPP.mono {K : PySem.W.Frag} {F F' : Hp} (s : Sub F F') : ∀ {vs : List (V × V)} {ds : List (D × D)}, RepPP K F vs ds → RepPP K F' vs ds
  | _, _, .nil => .nil
  | _, _, .cons a b r => .cons (a.mono s) (b.mono s) (RepPP.mono s r)
theorem RepPP.keys {K : PySem.W.Frag} {F : Hp} : ∀ {vs : List (V × V)} {ds : List (D × D)}, RepPP K F vs ds → (ds.all fun p => keyOk false p.1) = true → ∃ kvs : List (Key × V), vs = kvs.map (fun kv => (kV kv.1, kv.2)) ∧ RepK K F kvs ds
  | _, _, .nil, _ => ⟨[], rfl, .nil⟩
  | _, _, .cons a b r, h => by
    rw [List.all_cons, Bool.and_eq_true] at h
    obtain ⟨kvs, e1, e2⟩ := RepPP.keys r h.2
    obtain ⟨k, e3, e4⟩ := a.key h.1
    subst e3 e4
    exact ⟨(k, _) :: kvs, by rw [e1]; rfl, .cons b e2⟩
theorem RepK.merge {K : PySem.W.Frag} {F : Hp} : ∀ {more : List (Key × V)} {md : List (D × D)}, RepK K F more md → ∀ {kvs : List (Key × V)} {kd : List (D × D)}, RepK K F kvs kd → RepK K F (mergeK kvs more) (md.foldl (fun acc p => putD acc p.1 p.2) kd)
  | _, _, .nil, _, _, r => r
  | _, _, .cons (k := k) h m, _, _, r => by
    unfold mergeK
    rw [List.foldl_cons, List.foldl_cons]
    exact RepK.merge m (r.put h k)
theorem pairs_ok {K : PySem.W.Frag} {O G : Hp} {σ : L2.St} : ∀ {ws : List (WE × WE)} {F H : Hp} {E : En} {P : List (D × D) → En → Prop} {Q : List (V × V) → Hp → Prop}, R K O G F σ H E → wPairs ws E P →
    (∀ vs H' F' E' ds, Sub F F' → R K O G F' σ H' E' → RepPP K F' vs ds → P ds E' → Q vs H') → tPairs (ws.map fun p => (tE K p.1, tE K p.2)) σ H Q
  | [], F, H, E, P, Q, r, h, k => k [] H F E [] (Sub.refl F) r .nil h
  | (wk, wv) :: ws, F, H, E, P, Q, r, h, k => by
    refine tE_bind r h fun v H1 F1 E1 b s1 r1 p1 q1 => ?_
    obtain ⟨F2, s2, r2, p2⟩ := r1.frz p1
    refine tE_bind r2 q1 fun v' H3 F3 E3 b' s3 r3 p3 q3 => ?_
    obtain ⟨F4, s4, r4, p4⟩ := r3.frz p3
    refine pairs_ok r4 q3 fun vs H5 F5 E5 ds s5 r5 p5 q5 => ?_
    exact k _ H5 F5 E5 _ ((s1.trans s2).trans ((s3.trans s4).trans s5)) r5 (.cons (p2.mono ((s3.trans s4).trans s5)) (p4.mono s5) p5) q5
abbrev PsD (X : Cx) (pos : Pos) (keys : List (Option Expr)) (values : List Expr) (ws : List (WE × WE)) : Prop := PPs X pos keys values (ws.map fun p => (tE X.K p.1, tE X.K p.2))
section
variable {X : Cx} {pos : Pos}
theorem psd_n : PsD X pos [] [] [] := pps_nil
theorem psd_c {k v : Expr} {ks : List (Option Expr)} {vs : List Expr} {wk wv : WE} {ws : List (WE × WE)} (hk : ED X k wk) (hv : ED X v wv) (hr : PsD X pos ks vs ws) : PsD X pos (some k :: ks) (v :: vs) ((wk, wv) :: ws) := pps_cons hk hv hr
theorem ed_disp {keys : List (Option Expr)} {values : List Expr} {ws : List (WE × WE)} (h : PsD X pos keys values ws) (hall : keys.all (·.isSome) = true) (hl : keys.length = values.length) (h0 : keys ≠ []) (h15 : keys.length ≤ 15) : ED X (.Dict keys values pos) (wDisp ws) :=
  ed_of (pe_disp h hall hl h0 h15) fun O G F σ H E Q r q p hp => by
    have np := r.f.gone hp
    have op := r.oNone hp
    have r1 := (r.alloc (u := .dK []) hp).hide upd_same np (r.notOwned hp)
    refine pairs_ok r1 q fun vs H1 F1 E1 ds s1 r2 p1 ⟨ok, h15, q1⟩ => ?_
    have n1 : F1 p = none := by
      rcases (r2.o p _ upd_same).2 with z | z
      · exact z
      · cases z
    obtain ⟨kvs, e1, e2⟩ := p1.keys ok
    have hp1 := (r2.o p _ upd_same).1
    obtain ⟨r3, w3⟩ := r2.unhide (u' := .dK (mergeK [] kvs)) n1 op
    refine ⟨hp1, kvs, e1, by rw [e2.length]; exact h15, F1, E1, .own _, s1, r3, ⟨⟨p, rfl, n1, op, Cell.mkK (e2.merge .nil)⟩, fun a ea w => ?_⟩, q1⟩
    cases ea
    exact w3 w
end
end PW

set_option Elab.async false
set_option linter.all false
set_option autoImplicit false
set_option maxRecDepth 100000
set_option maxHeartbeats 4000000
namespace PW
open PySem PySem.Spec PyProof.Rows L2

/-! ### room -/
theorem rm1 {k : Nat} {A : Around} (h : Room k A) : A.units + 1 < cLine := by have := h.un; omega
theorem rm64 {k : Nat} {A : Around} (h : Room k A) : A.units + 64 < cLine := by have := h.un; omega
theorem rm65 {k : Nat} {A : Around} (h : Room k A) : A.units + 65 < cLine := by have := h.un; omega

/-! ### promises by the number of arguments -/
def fs0 (f : (B → Prop) → Prop) : FS := fun ds P => ds = [] ∧ f P
def fs1 (f : D → (B → Prop) → Prop) : FS := fun ds P => ∃ a, ds = [a] ∧ f a P
def fs2 (f : D → D → (B → Prop) → Prop) : FS := fun ds P => ∃ a b, ds = [a, b] ∧ f a b P
def fs3 (f : D → D → D → (B → Prop) → Prop) : FS := fun ds P => ∃ a b c, ds = [a, b, c] ∧ f a b c P
def fs4 (f : D → D → D → D → (B → Prop) → Prop) : FS := fun ds P => ∃ a b c d, ds = [a, b, c, d] ∧ f a b c d P
def fs5 (f : D → D → D → D → D → (B → Prop) → Prop) : FS := fun ds P => ∃ a b c d e, ds = [a, b, c, d, e] ∧ f a b c d e P
def fs6 (f : D → D → D → D → D → D → (B → Prop) → Prop) : FS := fun ds P => ∃ a b c d e g, ds = [a, b, c, d, e, g] ∧ f a b c d e g P
theorem fs0_iff {f : (B → Prop) → Prop} {P : B → Prop} : fs0 f [] P ↔ f P := by simp [fs0]
theorem fs1_iff {f : D → (B → Prop) → Prop} {a : D} {P : B → Prop} : fs1 f [a] P ↔ f a P := by simp [fs1]
theorem fs2_iff {f : D → D → (B → Prop) → Prop} {a b : D} {P : B → Prop} : fs2 f [a, b] P ↔ f a b P :=
  ⟨fun ⟨_, _, e, h⟩ => by cases e; exact h, fun h => ⟨_, _, rfl, h⟩⟩
theorem fs3_iff {f : D → D → D → (B → Prop) → Prop} {a b c : D} {P : B → Prop} : fs3 f [a, b, c] P ↔ f a b c P :=
  ⟨fun ⟨_, _, _, e, h⟩ => by cases e; exact h, fun h => ⟨_, _, _, rfl, h⟩⟩
theorem fs4_iff {f : D → D → D → D → (B → Prop) → Prop} {a b c d : D} {P : B → Prop} : fs4 f [a, b, c, d] P ↔ f a b c d P :=
  ⟨fun ⟨_, _, _, _, e, h⟩ => by cases e; exact h, fun h => ⟨_, _, _, _, rfl, h⟩⟩
theorem fs5_iff {f : D → D → D → D → D → (B → Prop) → Prop} {a b c d e : D} {P : B → Prop} : fs5 f [a, b, c, d, e] P ↔ f a b c d e P :=
  ⟨fun ⟨_, _, _, _, _, e, h⟩ => by cases e; exact h, fun h => ⟨_, _, _, _, _, rfl, h⟩⟩
theorem fs6_iff {f : D → D → D → D → D → D → (B → Prop) → Prop} {a b c d e g : D} {P : B → Prop} : fs6 f [a, b, c, d, e, g] P ↔ f a b c d e g P :=
  ⟨fun ⟨_, _, _, _, _, _, e, h⟩ => by cases e; exact h, fun h => ⟨_, _, _, _, _, _, rfl, h⟩⟩
/-- the first argument a cell that may change, and so many more -/
def ps0 (f : D → (B → D → Prop) → Prop) : PFS := fun d ds P => ds = [] ∧ f d P
def ps1 (f : D → D → (B → D → Prop) → Prop) : PFS := fun d ds P => ∃ a, ds = [a] ∧ f d a P
def ps2 (f : D → D → D → (B → D → Prop) → Prop) : PFS := fun d ds P => ∃ a b, ds = [a, b] ∧ f d a b P
def ps3 (f : D → D → D → D → (B → D → Prop) → Prop) : PFS := fun d ds P => ∃ a b c, ds = [a, b, c] ∧ f d a b c P
def ps4 (f : D → D → D → D → D → (B → D → Prop) → Prop) : PFS := fun d ds P => ∃ a b c e, ds = [a, b, c, e] ∧ f d a b c e P
theorem ps0_iff {f : D → (B → D → Prop) → Prop} {d : D} {P : B → D → Prop} : ps0 f d [] P ↔ f d P := by simp [ps0]
theorem ps1_iff {f : D → D → (B → D → Prop) → Prop} {d a : D} {P : B → D → Prop} : ps1 f d [a] P ↔ f d a P := by simp [ps1]
theorem ps2_iff {f : D → D → D → (B → D → Prop) → Prop} {d a b : D} {P : B → D → Prop} : ps2 f d [a, b] P ↔ f d a b P :=
  ⟨fun ⟨_, _, e, h⟩ => by cases e; exact h, fun h => ⟨_, _, rfl, h⟩⟩
theorem ps3_iff {f : D → D → D → D → (B → D → Prop) → Prop} {d a b c : D} {P : B → D → Prop} : ps3 f d [a, b, c] P ↔ f d a b c P :=
  ⟨fun ⟨_, _, _, e, h⟩ => by cases e; exact h, fun h => ⟨_, _, _, rfl, h⟩⟩
theorem ps4_iff {f : D → D → D → D → D → (B → D → Prop) → Prop} {d a b c e : D} {P : B → D → Prop} : ps4 f d [a, b, c, e] P ↔ f d a b c e P :=
  ⟨fun ⟨_, _, _, _, e, h⟩ => by cases e; exact h, fun h => ⟨_, _, _, _, rfl, h⟩⟩

/-! ### a def of the text keeps its promise -/
section
variable {P : Program} {w : World} {K : PySem.W.Frag} {mg : Str → Option Value} {base : Heap} {x qual : Str} {st : Stmt} {f : Addr} {fd : FuncData} {N ps : List Str} {k : Nat}
def DerOk (P : Program) (w : World) (K : PySem.W.Frag) (mg : Str → Option Value) (base : Heap) (N : List Str) (qual : Str) (st : Stmt) (f : Addr) (k : Nat) (ws : WS) : Prop :=
  ∀ (cdv : Value) (A : Around) (outer : List Env) (s : Shared) (H : Hp) (E : XK), Room k (A.deeper (envOfC qual (defScope st) s.heap.objs.size f cdv)) → BD (cxOf CX0 P w K mg base N qual (defScope st) f cdv A outer s H E).nox (defBody st) ws
theorem okF {fs : FS} {ws : WS} (F : Fun K x qual st f fd) (S : FnScope N ps (defScope st)) (hl : ∀ ds Pp, fs ds Pp → ds.length = ps.length) (hN : ps.length ≤ N.length)
    (der : DerOk P w K mg base N qual st f k ws) (law : ∀ ds Pp, fs ds Pp → ws { nx := fun _ => Pp (.dat .non), rt := fun b _ => Pp b } (start0 N (ds.map .dat))) : FnOk P w K mg base CX0 (k + 1) f fd ps (spF K fs) := by
  refine F.ok S (fun vs H Q E ⟨G, ds, Pp, _, r, h, _⟩ => ?_) fun cdv A outer s H vs Q E hr h => ⟨tS K ws, der cdv A outer s H E hr, ?_⟩
  · rw [r.length, hl _ _ h]
  · refine body_F tS_ok ?_ law h
    obtain ⟨G, ds, Pp, _, r, h, _⟩ := h
    rw [r.length, hl _ _ h]; exact hN
theorem okP {fs : PFS} {ws : WS} (F : Fun K x qual st f fd) (S : FnScope N ps (defScope st)) (hl : ∀ d ds Pp, fs d ds Pp → ds.length + 1 = ps.length) (hN : ps.length ≤ N.length)
    (der : DerOk P w K mg base N qual st f k ws) (law : ∀ p d ds Pp, fs d ds Pp → ws { nx := fun E => ∃ d', E[0]? = some (some (.par p d')) ∧ Pp (.dat .non) d', rt := fun b E => ∃ d', E[0]? = some (some (.par p d')) ∧ Pp b d' } (start0 N (.par p d :: ds.map .dat))) : FnOk P w K mg base CX0 (k + 1) f fd ps (spP K fs) := by
  refine F.ok S (fun vs H Q E ⟨G, p, d, ws', ds, Pp, e, _, _, _, r, h, _⟩ => ?_) fun cdv A outer s H vs Q E hr h => ⟨tS K ws, der cdv A outer s H E hr, ?_⟩
  · rw [e, List.length_cons, r.length, hl _ _ _ h]
  · refine body_P tS_ok ?_ law h
    obtain ⟨G, p, d, ws', ds, Pp, e, _, _, _, r, h, _⟩ := h
    rw [e, List.length_cons, r.length, hl _ _ _ h]; exact hN
/-- what a body must show -/
def noE : En → Prop := fun _ => False
def sta (n : Nat) (bs : List B) : En := bs.map some ++ List.replicate (n - bs.length) none
def LF (n : Nat) (ws : WS) (bs : List D) (Pp : B → Prop) : Prop := ws ⟨fun _ => Pp (.dat .non), fun b _ => Pp b, noE, noE⟩ (sta n (bs.map .dat))
/-- the cell's data at the end -/
def endP (p : Addr) (Pp : B → D → Prop) (b : B) (E : En) : Prop := ∃ d', E[0]? = some (some (.par p d')) ∧ Pp b d'
def LP (n : Nat) (ws : WS) (p : Addr) (d : D) (bs : List D) (Pp : B → D → Prop) : Prop :=
  ws ⟨endP p Pp (.dat .non), endP p Pp, noE, noE⟩ (sta n (.par p d :: bs.map .dat))
variable {ws : WS}
theorem okF0 {g : (B → Prop) → Prop} (F : Fun K x qual st f fd) (S : FnScope N [] (defScope st)) (der : DerOk P w K mg base N qual st f k ws) (law : ∀ Pp, g Pp → LF N.length ws [] Pp) : FnOk P w K mg base CX0 (k + 1) f fd [] (spF K (fs0 g)) :=
  okF F S (fun ds Pp ⟨e, h⟩ => by rw [e]; rfl) (Nat.zero_le _) der fun ds Pp ⟨e, h⟩ => by subst e; exact law Pp h
theorem okF1 {g : D → (B → Prop) → Prop} {p1 : Str} (F : Fun K x qual st f fd) (S : FnScope N [p1] (defScope st)) (hN : 1 ≤ N.length) (der : DerOk P w K mg base N qual st f k ws) (law : ∀ a Pp, g a Pp → LF N.length ws [a] Pp) : FnOk P w K mg base CX0 (k + 1) f fd [p1] (spF K (fs1 g)) :=
  okF F S (fun ds Pp ⟨_, e, h⟩ => by rw [e]; rfl) hN der fun ds Pp ⟨_, e, h⟩ => by subst e; exact law _ Pp h
theorem okF2 {g : D → D → (B → Prop) → Prop} {p1 p2 : Str} (F : Fun K x qual st f fd) (S : FnScope N [p1, p2] (defScope st)) (hN : 2 ≤ N.length) (der : DerOk P w K mg base N qual st f k ws) (law : ∀ a b Pp, g a b Pp → LF N.length ws [a, b] Pp) : FnOk P w K mg base CX0 (k + 1) f fd [p1, p2] (spF K (fs2 g)) :=
  okF F S (fun ds Pp ⟨_, _, e, h⟩ => by rw [e]; rfl) hN der fun ds Pp ⟨_, _, e, h⟩ => by subst e; exact law _ _ Pp h
theorem okF3 {g : D → D → D → (B → Prop) → Prop} {p1 p2 p3 : Str} (F : Fun K x qual st f fd) (S : FnScope N [p1, p2, p3] (defScope st)) (hN : 3 ≤ N.length) (der : DerOk P w K mg base N qual st f k ws) (law : ∀ a b c Pp, g a b c Pp → LF N.length ws [a, b, c] Pp) : FnOk P w K mg base CX0 (k + 1) f fd [p1, p2, p3] (spF K (fs3 g)) :=
  okF F S (fun ds Pp ⟨_, _, _, e, h⟩ => by rw [e]; rfl) hN der fun ds Pp ⟨_, _, _, e, h⟩ => by subst e; exact law _ _ _ Pp h
theorem okF4 {g : D → D → D → D → (B → Prop) → Prop} {p1 p2 p3 p4 : Str} (F : Fun K x qual st f fd) (S : FnScope N [p1, p2, p3, p4] (defScope st)) (hN : 4 ≤ N.length) (der : DerOk P w K mg base N qual st f k ws) (law : ∀ a b c d Pp, g a b c d Pp → LF N.length ws [a, b, c, d] Pp) : FnOk P w K mg base CX0 (k + 1) f fd [p1, p2, p3, p4] (spF K (fs4 g)) :=
  okF F S (fun ds Pp ⟨_, _, _, _, e, h⟩ => by rw [e]; rfl) hN der fun ds Pp ⟨_, _, _, _, e, h⟩ => by subst e; exact law _ _ _ _ Pp h
theorem okF5 {g : D → D → D → D → D → (B → Prop) → Prop} {p1 p2 p3 p4 p5 : Str} (F : Fun K x qual st f fd) (S : FnScope N [p1, p2, p3, p4, p5] (defScope st)) (hN : 5 ≤ N.length) (der : DerOk P w K mg base N qual st f k ws) (law : ∀ a b c d e Pp, g a b c d e Pp → LF N.length ws [a, b, c, d, e] Pp) : FnOk P w K mg base CX0 (k + 1) f fd [p1, p2, p3, p4, p5] (spF K (fs5 g)) :=
  okF F S (fun ds Pp ⟨_, _, _, _, _, e, h⟩ => by rw [e]; rfl) hN der fun ds Pp ⟨_, _, _, _, _, e, h⟩ => by subst e; exact law _ _ _ _ _ Pp h
theorem okF6 {g : D → D → D → D → D → D → (B → Prop) → Prop} {p1 p2 p3 p4 p5 p6 : Str} (F : Fun K x qual st f fd) (S : FnScope N [p1, p2, p3, p4, p5, p6] (defScope st)) (hN : 6 ≤ N.length) (der : DerOk P w K mg base N qual st f k ws) (law : ∀ a b c d e h Pp, g a b c d e h Pp → LF N.length ws [a, b, c, d, e, h] Pp) : FnOk P w K mg base CX0 (k + 1) f fd [p1, p2, p3, p4, p5, p6] (spF K (fs6 g)) :=
  okF F S (fun ds Pp ⟨_, _, _, _, _, _, e, h⟩ => by rw [e]; rfl) hN der fun ds Pp ⟨_, _, _, _, _, _, e, h⟩ => by subst e; exact law _ _ _ _ _ _ Pp h
theorem okP0 {g : D → (B → D → Prop) → Prop} {p1 : Str} (F : Fun K x qual st f fd) (S : FnScope N [p1] (defScope st)) (hN : 1 ≤ N.length) (der : DerOk P w K mg base N qual st f k ws) (law : ∀ p a Pp, g a Pp → LP N.length ws p a [] Pp) : FnOk P w K mg base CX0 (k + 1) f fd [p1] (spP K (ps0 g)) :=
  okP F S (fun d ds Pp ⟨e, h⟩ => by rw [e]; rfl) hN der fun p d ds Pp ⟨e, h⟩ => by subst e; exact law p d Pp h
theorem okP1 {g : D → D → (B → D → Prop) → Prop} {p1 p2 : Str} (F : Fun K x qual st f fd) (S : FnScope N [p1, p2] (defScope st)) (hN : 2 ≤ N.length) (der : DerOk P w K mg base N qual st f k ws) (law : ∀ p a b Pp, g a b Pp → LP N.length ws p a [b] Pp) : FnOk P w K mg base CX0 (k + 1) f fd [p1, p2] (spP K (ps1 g)) :=
  okP F S (fun d ds Pp ⟨_, e, h⟩ => by rw [e]; rfl) hN der fun p d ds Pp ⟨_, e, h⟩ => by subst e; exact law p d _ Pp h
theorem okP2 {g : D → D → D → (B → D → Prop) → Prop} {p1 p2 p3 : Str} (F : Fun K x qual st f fd) (S : FnScope N [p1, p2, p3] (defScope st)) (hN : 3 ≤ N.length) (der : DerOk P w K mg base N qual st f k ws) (law : ∀ p a b c Pp, g a b c Pp → LP N.length ws p a [b, c] Pp) : FnOk P w K mg base CX0 (k + 1) f fd [p1, p2, p3] (spP K (ps2 g)) :=
  okP F S (fun d ds Pp ⟨_, _, e, h⟩ => by rw [e]; rfl) hN der fun p d ds Pp ⟨_, _, e, h⟩ => by subst e; exact law p d _ _ Pp h
theorem okP3 {g : D → D → D → D → (B → D → Prop) → Prop} {p1 p2 p3 p4 : Str} (F : Fun K x qual st f fd) (S : FnScope N [p1, p2, p3, p4] (defScope st)) (hN : 4 ≤ N.length) (der : DerOk P w K mg base N qual st f k ws) (law : ∀ p a b c d Pp, g a b c d Pp → LP N.length ws p a [b, c, d] Pp) : FnOk P w K mg base CX0 (k + 1) f fd [p1, p2, p3, p4] (spP K (ps3 g)) :=
  okP F S (fun d ds Pp ⟨_, _, _, e, h⟩ => by rw [e]; rfl) hN der fun p d ds Pp ⟨_, _, _, e, h⟩ => by subst e; exact law p d _ _ _ Pp h
end

/-! ### truth -/
def truD : D → Bool
  | .non => false | .bl b => b | .int i => i != 0 | .str s => (s.length : Int) != 0 | .tup l => !l.isEmpty | .lst l => !l.isEmpty | .scr l => !l.isEmpty | .dct _ l => !l.isEmpty
def truOk : D → Prop
  | .str s => s.length ≤ 16777216
  | .dct _ _ => False
  | _ => True
def wTru (wo : WO) : WT := fun E Q => wo E fun o E1 => match o.get E1 with
  | some d => truOk d ∧ Q (truD d) E1
  | _ => False
theorem truV_of {K : PySem.W.Frag} {F H : Hp} {v : V} {d : D} (h : Rdb K F H v d) (s : Sub F H) (ok : truOk d) : TruV K v H (truD d) := by
  cases d with
  | non => rw [h.non]; rfl
  | bl b => rw [h.bl]; rfl
  | int i => rw [h.int]; rfl
  | str l =>
    rw [h.str]
    exact ⟨by rw [mkS_length, line_eq]; exact ok, by rw [mkS_length]; rfl⟩
  | tup l =>
    obtain ⟨a, vs, rfl, h1, p⟩ := h.tup s
    exact .inr (.inl ⟨vs, SqT.of h1, by cases p <;> rfl⟩)
  | lst l =>
    obtain ⟨a, vs, rfl, h1, p⟩ := h.lst s
    exact .inl ⟨vs, SqL.of h1, by cases p <;> rfl⟩
  | scr l =>
    obtain ⟨a, rfl, h1⟩ := h.scr s
    exact .inl ⟨_, h1, by cases l <;> rfl⟩
  | dct t l => exact ok.elim
section
variable {X : Cx} {a e b c : Expr} {pos : Pos}
theorem td_v {w : WE} (h : ED X e w) (hp : ∀ whole, isTrue e X.env whole = (do let v ← whole; standAt e.pos; holding [v] (truthy v)) := by intro _; rfl) : TD X e (wTst w) := td_of (pt_val h hp) ok_tB
theorem td_tru {wo : WO} (h : OD X a wo) (hp : ∀ whole, isTrue a X.env whole = (do let v ← whole; standAt a.pos; holding [v] (truthy v)) := by intro _; rfl) : TD X a (wTru wo) := td_of (pt_truth h hp) fun O G F σ H E Q r q => by
  refine tO_bind r q fun x H1 F1 E1 o s1 r1 p1 q1 => ?_
  split at q1
  · rename_i d ed
    exact ⟨_, truV_of (r1.rdb p1 ed) r1.f q1.1, F1, E1, s1, r1, q1.2⟩
  · exact q1.elim

/-! ### a < b < c -/
def wChain (wr wr' : D → D → (B → Prop) → Prop) (wa wb wc : WO) : WE := fun E Q => wa E fun oa E1 => wb E1 fun ob E2 => match oa.get E2, ob.get E2 with
  | some x, some y => wr x y fun b => match b with
    | .dat (.bl k) => if k = true then wc E2 fun oc E3 => (match oc.get E3, ob.get E3 with
        | some z, some y' => wr' y' z fun b => Q b E3
        | _, _ => False) else Q (.dat (.bl false)) E2
    | _ => False
  | _, _ => False
theorem chainK {K : PySem.W.Frag} {r r' : R2} {wr wr' : D → D → (B → Prop) → Prop} {wa wb wc : WO} (h : Op2Ok K r wr) (h' : Op2Ok K r' wr') {O G F : Hp} {σ : L2.St} {H : Hp} {E : En} {P : B → En → Prop} {Q : VK} (r0 : R K O G F σ H E) (q : wChain wr wr' wa wb wc E P)
    (fin : ∀ v H' F' E' b, Sub F F' → R K O G F' σ H' E' → RR K O F' σ H' E' v b → P b E' → Q v H') : tChain r r' (tO K wa) (tO K wb) (tO K wc) σ H Q := by
  refine tO_bind r0 q fun x H1 F1 E1 oa s1 r1 p1 q1 => ?_
  refine tO_bind r1 q1 fun y H2 F2 E2 ob s2 r2 p2 q2 => ?_
  split at q2
  · rename_i dx dy ex ey
    refine h O G F2 σ H2 E2 x y dx dy _ _ r2 (r2.rdb (p1.mono s2) ex) (r2.rdb p2 ey) q2 ?_
    intro v H' ⟨F', b, s3, r3, p3, q3⟩
    dsimp only at q3
    split at q3
    · rename_i k
      have p := p3.1
      have e : v = .bl k := by cases p; rfl
      refine ⟨k, e, ?_⟩
      cases k with
      | true =>
        refine tO_bind r3 q3 fun z H4 F4 E4 oc s4 r4 p4 q4 => ?_
        split at q4
        · rename_i dz dy' ez ey'
          refine h' O G F4 σ H4 E4 y z dy' dz _ _ r4 (r4.rdb ((p2.mono s3).mono s4) ey') (r4.rdb p4 ez) q4 ?_
          intro v H' ⟨F', b, s5, r5, p5, q5⟩
          exact fin v H' F' E4 b ((((s1.trans s2).trans s3).trans s4).trans s5) r5 p5 q5
        · exact q4.elim
      | false => exact fin _ _ F' E2 _ ((s1.trans s2).trans s3) r3 (datRR (.bl _)) q3
    · exact q3.elim
  · exact q2.elim
theorem ok_chain {K : PySem.W.Frag} {r r' : R2} {wr wr' : D → D → (B → Prop) → Prop} {wa wb wc : WO} (h : Op2Ok K r wr) (h' : Op2Ok K r' wr') : EOk K (tChain r r' (tO K wa) (tO K wb) (tO K wc)) (wChain wr wr' wa wb wc) := fun O G F σ H E Q r0 q =>
  chainK h h' r0 q fun v H' F' E' b s r p q => ⟨F', E', b, s, r, p, q⟩
theorem ed_chain {op op' : CmpOp} {r r' : R2} {wr wr' : D → D → (B → Prop) → Prop} {wa wb wc : WO} (ho : OpR X (compareOp op) r) (hk : Op2Ok X.K r wr) (ho' : OpR X (compareOp op') r') (hk' : Op2Ok X.K r' wr') (ha : OD X a wa) (hb : OD X b wb) (hc : OD X c wc)
    (hm : lastMarks [op, op'] [b, c] = false := by with_unfolding_all rfl) : ED X (.Compare a [op, op'] [b, c] pos) (wChain wr wr' wa wb wc) := ed_of (pe_chain ho ho' ha hb hc hm) (ok_chain hk hk')
theorem td_chain {op op' : CmpOp} {r r' : R2} {wr wr' : D → D → (B → Prop) → Prop} {wa wb wc : WO} (ho : OpR X (compareOp op) r) (hk : Op2Ok X.K r wr) (ho' : OpR X (compareOp op') r') (hk' : Op2Ok X.K r' wr') (ha : OD X a wa) (hb : OD X b wb) (hc : OD X c wc)
    (hm : lastMarks [op, op'] [b, c] = false := by with_unfolding_all rfl) : TD X (.Compare a [op, op'] [b, c] pos) (wTst (wChain wr wr' wa wb wc)) := td_of (pt_chain ho ho' ha hb hc hm) fun O G F σ H E Q r0 q => by
  refine chainK hk hk' r0 q fun v H' F' E' b s r' p q' => ?_
  split at q'
  · rename_i k
    have p := p.1
    have e : v = .bl k := by cases p; rfl
    exact ⟨k, e, F', E', s, r', q'⟩
  · exact q'.elim
end
end PW

set_option Elab.async false
set_option linter.all false
set_option autoImplicit false
set_option maxRecDepth 100000
set_option maxHeartbeats 4000000
namespace PW
open PySem PySem.Spec PyProof.Rows L2

/-! ### a, b = e, f -/
def sPar (i j : Nat) (a : WA) : WS := fun D E => a E fun ds E1 => match ds with
  | [x, y] => D.nx ((E1.set i (some (.dat x))).set j (some (.dat y)))
  | _ => False
def sPar3 (i j l : Nat) (a : WA) : WS := fun D E => a E fun ds E1 => match ds with
  | [x, y, z] => D.nx (((E1.set i (some (.dat x))).set j (some (.dat y))).set l (some (.dat z)))
  | _ => False
section
variable {X : Cx} {a b c : Expr} {pos : Pos}
theorem sd_par {i j : Nat} {x y : Str} {wa : WA} {px py pt : Pos} {kt k2 pt2} (hc : X.calm = true) (hN : X.N.Nodup) (hi : X.N[i]? = some x) (hj : X.N[j]? = some y) (hij : i ≠ j)
    (hx : X.env.scope.names.lookup x = some .local) (hy : X.env.scope.names.lookup y = some .local) (ha : AD X [a, b] wa)
    (hw : swappedStores [.Tuple [.Name x px, .Name y py] kt pt] (.Tuple [a, b] k2 pt2) X.env = pure (some [x, y]))
    (hs : swapsWithSole [.Tuple [.Name x px, .Name y py] kt pt] (.Tuple [a, b] k2 pt2) pos.line X.env = pure false := by rfl) :
    SD X (.Assign [.Tuple [.Name x px, .Name y py] kt pt] (.Tuple [a, b] k2 pt2) pos) (sPar i j wa) := sd_of (ps_par hc hN hi hj hij hx hy ha hw hs) fun O G F σ H E D D' en r h => by
  refine tA_bind r h fun vs H1 F1 E1 ds s1 r1 p1 q1 => ?_
  split at q1
  · cases p1 with
    | cons h1 p1 => cases p1 with
      | cons h2 p1 => cases p1; exact ⟨_, _, rfl, en.nx _ _ _ _ ((r1.set i (datRR h1)).set j (datRR h2)) q1⟩
  · exact q1.elim
theorem sd_par3 {i j l : Nat} {x y z : Str} {wa : WA} {px py pz pt : Pos} {kt k2 pt2} (hc : X.calm = true) (hN : X.N.Nodup) (hi : X.N[i]? = some x) (hj : X.N[j]? = some y) (hl : X.N[l]? = some z) (hij : i ≠ j) (hil : i ≠ l) (hjl : j ≠ l)
    (hx : X.env.scope.names.lookup x = some .local) (hy : X.env.scope.names.lookup y = some .local) (hz : X.env.scope.names.lookup z = some .local) (ha : AD X [a, b, c] wa)
    (hw : swappedStores [.Tuple [.Name x px, .Name y py, .Name z pz] kt pt] (.Tuple [a, b, c] k2 pt2) X.env = pure (some [x, y, z]))
    (hs : swapsWithSole [.Tuple [.Name x px, .Name y py, .Name z pz] kt pt] (.Tuple [a, b, c] k2 pt2) pos.line X.env = pure false := by rfl) :
    SD X (.Assign [.Tuple [.Name x px, .Name y py, .Name z pz] kt pt] (.Tuple [a, b, c] k2 pt2) pos) (sPar3 i j l wa) := sd_of (ps_par3 hc hN hi hj hl hij hil hjl hx hy hz ha hw hs) fun O G F σ H E D D' en r h => by
  refine tA_bind r h fun vs H1 F1 E1 ds s1 r1 p1 q1 => ?_
  split at q1
  · cases p1 with
    | cons h1 p1 => cases p1 with
      | cons h2 p1 => cases p1 with
        | cons h3 p1 => cases p1; exact ⟨_, _, _, rfl, en.nx _ _ _ _ (((r1.set i (datRR h1)).set j (datRR h2)).set l (datRR h3)) q1⟩
  · exact q1.elim
end

/-! ### x is True -/
def isBl : D → D → Bool
  | .bl a, .bl b => a == b
  | _, _ => false
def isBool : D → Bool
  | .bl _ => true
  | _ => false
def wIsB (x y : D) (Q : B → Prop) : Prop := isBool y = true ∧ Q (.dat (.bl (isBl x y)))
def wNotB (x y : D) (Q : B → Prop) : Prop := isBool y = true ∧ Q (.dat (.bl (!isBl x y)))
section
variable {X : Cx} {K : PySem.W.Frag}
theorem op_isBl : OpR X (compareOp .Is) (fun x y H Q => ∃ b, y = .bl b ∧ Q (.bl (decide (x = .bl b))) H) := by
  intro pins s σ H x y v u Q I rx ry ⟨b, e, q⟩
  subst e
  cases ry
  refine wpAny_is_plain (by cases x <;> (first | (cases rx; rfl) | (obtain ⟨t, rfl⟩ := rx; rfl))) ⟨.bl (v == .bool b), H, I, rfl, ?_⟩
  rwa [show decide (x = .bl b) = (v == .bool b) from ?_] at q
  cases x <;> (first | (cases rx) | (obtain ⟨t, rfl⟩ := rx)) <;> first
    | rfl
    | (rw [decide_eq_false (by intro z; cases z)]; rfl)
    | (rename_i c; cases b <;> cases c <;> rfl)
theorem op_notBl : OpR X (compareOp .IsNot) (fun x y H Q => ∃ b, y = .bl b ∧ Q (.bl (!decide (x = .bl b))) H) := by
  intro pins s σ H x y v u Q I rx ry ⟨b, e, q⟩
  subst e
  cases ry
  refine wpAny_isNot_plain (by cases x <;> (first | (cases rx; rfl) | (obtain ⟨t, rfl⟩ := rx; rfl))) ⟨.bl (!(v == .bool b)), H, I, rfl, ?_⟩
  rwa [show decide (x = .bl b) = (v == .bool b) from ?_] at q
  cases x <;> (first | (cases rx) | (obtain ⟨t, rfl⟩ := rx)) <;> first
    | rfl
    | (rw [decide_eq_false (by intro z; cases z)]; rfl)
    | (rename_i c; cases b <;> cases c <;> rfl)
theorem Rdb.isBl {F H : Hp} {v : V} {d : D} {b : Bool} (h : Rdb K F H v d) : decide (v = .bl b) = isBl d (.bl b) := by
  rcases h with h | ⟨a, e, c⟩
  · cases h <;> first | (rename_i c; cases b <;> cases c <;> rfl) | exact decide_eq_false (by intro z; cases z)
  · subst e
    cases d <;> first | exact decide_eq_false (by intro z; cases z) | exact c.elim
theorem isBool_eq {d : D} (h : isBool d = true) : ∃ b, d = .bl b := by cases d <;> first | exact ⟨_, rfl⟩ | cases h
theorem k_isB : Op2Ok K (fun x y H Q => ∃ b, y = .bl b ∧ Q (.bl (decide (x = .bl b))) H) wIsB := by
  intro O G F σ H E x y dx dy Q Q' r hx hy ⟨ok, q⟩ k
  obtain ⟨b, e⟩ := isBool_eq ok
  subst e
  exact ⟨b, hy.bl, by rw [hx.isBl]; exact k _ _ (.dat r (.bl _) q)⟩
theorem k_notB : Op2Ok K (fun x y H Q => ∃ b, y = .bl b ∧ Q (.bl (!decide (x = .bl b))) H) wNotB := by
  intro O G F σ H E x y dx dy Q Q' r hx hy ⟨ok, q⟩ k
  obtain ⟨b, e⟩ := isBool_eq ok
  subst e
  exact ⟨b, hy.bl, by rw [hx.isBl]; exact k _ _ (.dat r (.bl _) q)⟩
end

/-! ### a list or a text, so many times -/
def wMulG : D → D → (B → Prop) → Prop
  | .int i, .int j, Q => MulOk i j ∧ Q (.dat (.int (i * j)))
  | .lst l, .int k, Q => (-(2 ^ 63) ≤ k ∧ k < 2 ^ 63 ∧ l.length * k.toNat ≤ 16777216) ∧ Q (.own (.lst (List.replicate k.toNat l).flatten))
  | .str l, .int k, Q => (k < 1000000 ∧ -1000000 < k ∧ l.length ≤ 16) ∧ Q (.dat (.str (List.replicate k.toNat l).flatten))
  | _, _, _ => False
theorem foldl_app (a : Array Nat) : ∀ (n : Nat) (z : Array Nat), ((List.replicate n a).foldl (· ++ ·) z) = z ++ ((List.replicate n a.toList).flatten).toArray
  | 0, z => by simp
  | n + 1, z => by
    rw [List.replicate_succ, List.foldl_cons, foldl_app a n]
    rw [List.replicate_succ, List.flatten_cons]
    apply Array.ext'
    simp
theorem mul_mkS (l : List Nat) (k : Int) : PySem.Txt.mul (mkS l) k = mkS (List.replicate k.toNat l).flatten := by
  unfold PySem.Txt.mul
  by_cases h1 : k < 1
  · rw [if_pos h1]
    have : k.toNat = 0 := by omega
    rw [this]; rfl
  · rw [if_neg h1]
    by_cases h2 : (k == 1 || (mkS l).length == 0) = true
    · rw [if_pos h2]
      simp only [Bool.or_eq_true, beq_iff_eq] at h2
      rcases h2 with h2 | h2
      · subst h2; simp
      · rw [mkS_length] at h2
        have : l = [] := List.eq_nil_of_length_eq_zero h2
        subst this
        simp
    · rw [if_neg h2]
      show (⟨_⟩ : Str) = ⟨_⟩
      congr 1
      rw [foldl_app]
      simp
section
variable {X : Cx} {K : PySem.W.Frag}
def rMulS : R2 := fun x y H Q => ∃ l k, x = .str l ∧ y = .int k ∧ PySem.MulOk l k ∧ Q (.str (PySem.Txt.mul l k)) H
theorem op_mulS : OpR X (binaryOp .Mult) rMulS := by
  intro pins s σ H x y v u Q I rx ry ⟨l, k, e1, e2, ok, q⟩
  subst e1 e2
  obtain ⟨t, rfl⟩ := rx
  obtain ⟨t', rfl⟩ := ry
  exact PySem.SB.mul ok fun t' k => ⟨.str _, H, I.tok k, ⟨_, rfl⟩, q⟩
abbrev rMulG : R2 := fun x y H Q => rI MulOk (fun i j => .int (i * j)) x y H Q ∨ rRep x y H Q ∨ rMulS x y H Q
theorem op_mulG : OpR X (binaryOp .Mult) rMulG := op_mulA.or (op_rep.or op_mulS)
theorem k_mulG : Op2Ok K rMulG wMulG := by
  intro O G F σ H E x y dx dy Q Q' r hx hy q k
  unfold wMulG at q
  split at q
  · rename_i i j
    have e := hx.int
    have e' := hy.int
    subst e e'
    exact .inl ⟨i, j, rfl, rfl, q.1, k _ _ (.dat r (.int _) q.2)⟩
  · rename_i l j
    have e' := hy.int
    subst e'
    obtain ⟨a, vs, rfl, h1, p⟩ := hx.lst r.f
    exact .inr (.inl ⟨a, j, vs, rfl, rfl, h1, q.1.1, q.1.2.1, by rw [p.length, line_eq]; exact q.1.2.2, fun c hc => k _ _ (.lst r hc (p.rep _) q.2)⟩)
  · rename_i l j
    have e' := hy.int
    subst e'
    have e := hx.str
    subst e
    refine .inr (.inr ⟨_, j, rfl, rfl, ?_, by rw [mul_mkS]; exact k _ _ (.dat r (.str _) q.2)⟩)
    obtain ⟨⟨h1, h2, h3⟩, _⟩ := q
    have hl := line_eq
    refine ⟨by simp; omega, fun h _ => ?_, fun h _ => ?_⟩
    · rw [mkS_length]
      have : (16 : Int) ≤ (2 ^ 63 - 1) / j := by
        rw [Int.le_ediv_iff_mul_le (by omega)]
        omega
      omega
    · show decide _ = false
      rw [mkS_length, decide_eq_false_iff_not, hl]
      have : l.length * j.toNat ≤ 16 * 1000000 := Nat.mul_le_mul h3 (by omega)
      omega
  · exact q.elim
end

/-! ### <, <=, >, >= of data alike -/
def cmpOk (x y : D) : Prop := okD x = true ∧ okD y = true ∧ PySem.W.alike x.py y.py = true ∧ isNon x = false
def ltD (x y : D) : Bool := PySem.W.dataLt x.py y.py
def wLt : D → D → (B → Prop) → Prop
  | .int i, .int j, Q => Q (.dat (.bl (decide (i < j))))
  | x, y, Q => cmpOk x y ∧ Q (.dat (.bl (ltD x y)))
def wGt : D → D → (B → Prop) → Prop
  | .int i, .int j, Q => Q (.dat (.bl (decide (j < i))))
  | x, y, Q => cmpOk x y ∧ Q (.dat (.bl (ltD y x)))
def wLe : D → D → (B → Prop) → Prop
  | .int i, .int j, Q => Q (.dat (.bl (decide (i ≤ j))))
  | x, y, Q => cmpOk x y ∧ Q (.dat (.bl (!ltD y x)))
def wGe : D → D → (B → Prop) → Prop
  | .int i, .int j, Q => Q (.dat (.bl (decide (j ≤ i))))
  | x, y, Q => cmpOk x y ∧ Q (.dat (.bl (!ltD x y)))
section
variable {X : Cx} {K : PySem.W.Frag}
def rCmpD (K : PySem.W.Frag) (f : PyData → PyData → Bool) : R2 := fun x y H Q => ∃ d e, Dp K H x d ∧ Dp K H y e ∧ SeqAt.shaped d = true ∧ PySem.W.alike d e = true ∧ d ≠ .none ∧ Q (.bl (f d e)) H
abbrev rCmpG (K : PySem.W.Frag) (p : Int → Int → Bool) (f : PyData → PyData → Bool) : R2 := fun x y H Q => rI0 (fun i j => .bl (p i j)) x y H Q ∨ rCmpD K f x y H Q
theorem op_ltG (hu : X.A.units + 64 < cLine) : OpR X (compareOp .Lt) (rCmpG X.K (fun i j => decide (i < j)) PySem.W.dataLt) := op_lt.or (by
  intro pins s σ H x y v u Q I rx ry ⟨d, e, hd, he, sd, al, nn, q⟩
  obtain ⟨as, r1⟩ := Dp.reads I d x v hd rx
  obtain ⟨bs, r2⟩ := Dp.reads I e y u he ry
  exact PySem.W.lt_data r1 r2 al nn (SeqAt.room_of_shaped sd hu) ⟨.bl _, H, I, rfl, q⟩)
theorem op_gtG (hu : X.A.units + 64 < cLine) : OpR X (compareOp .Gt) (rCmpG X.K (fun i j => decide (j < i)) fun d e => PySem.W.dataLt e d) := op_gt.or (by
  intro pins s σ H x y v u Q I rx ry ⟨d, e, hd, he, sd, al, nn, q⟩
  obtain ⟨as, r1⟩ := Dp.reads I d x v hd rx
  obtain ⟨bs, r2⟩ := Dp.reads I e y u he ry
  exact PySem.W.gt_data r1 r2 al nn (SeqAt.room_of_shaped sd hu) ⟨.bl _, H, I, rfl, q⟩)
theorem op_leG (hu : X.A.units + 64 < cLine) : OpR X (compareOp .LtE) (rCmpG X.K (fun i j => decide (i ≤ j)) fun d e => !PySem.W.dataLt e d) := op_le.or (by
  intro pins s σ H x y v u Q I rx ry ⟨d, e, hd, he, sd, al, nn, q⟩
  obtain ⟨as, r1⟩ := Dp.reads I d x v hd rx
  obtain ⟨bs, r2⟩ := Dp.reads I e y u he ry
  exact PySem.W.le_data r1 r2 al nn (SeqAt.room_of_shaped sd hu) ⟨.bl _, H, I, rfl, q⟩)
theorem op_geG (hu : X.A.units + 64 < cLine) : OpR X (compareOp .GtE) (rCmpG X.K (fun i j => decide (j ≤ i)) fun d e => !PySem.W.dataLt d e) := op_ge.or (by
  intro pins s σ H x y v u Q I rx ry ⟨d, e, hd, he, sd, al, nn, q⟩
  obtain ⟨as, r1⟩ := Dp.reads I d x v hd rx
  obtain ⟨bs, r2⟩ := Dp.reads I e y u he ry
  exact PySem.W.ge_data r1 r2 al nn (SeqAt.room_of_shaped sd hu) ⟨.bl _, H, I, rfl, q⟩)
theorem isNon_py {d : D} (h : isNon d = false) : d.py ≠ .none := by
  cases d <;> first | (exact absurd h (by decide)) | simp [D.py]
theorem cmpG_core {p : Int → Int → Bool} {f : PyData → PyData → Bool} {w : D → D → (B → Prop) → Prop} (hi : ∀ i j Q, w (.int i) (.int j) Q → Q (.dat (.bl (p i j))))
    (hg : ∀ x y Q, (∀ i j, x = .int i → y = .int j → False) → w x y Q → cmpOk x y ∧ Q (.dat (.bl (f x.py y.py)))) : Op2Ok K (rCmpG K p f) w := by
  intro O G F σ H E x y dx dy Q Q' r hx hy q k
  by_cases h : ∃ i j, dx = .int i ∧ dy = .int j
  · obtain ⟨i, j, e1, e2⟩ := h
    subst e1 e2
    exact .inl ⟨i, j, hx.int, hy.int, k _ _ (.dat r (.bl _) (hi _ _ _ q))⟩
  · obtain ⟨⟨o1, o2, al, nn⟩, q⟩ := hg _ _ _ (fun i j e1 e2 => h ⟨i, j, e1, e2⟩) q
    exact .inr ⟨_, _, hx.dp r.f o1, hy.dp r.f o2, o1, al, isNon_py nn, k _ _ (.dat r (.bl _) q)⟩
theorem k_lt : Op2Ok K (rCmpG K (fun i j => decide (i < j)) PySem.W.dataLt) wLt := cmpG_core (fun _ _ _ q => q) fun x y Q n q => by
  unfold wLt at q; split at q
  · exact (n _ _ rfl rfl).elim
  · exact q
theorem k_gt : Op2Ok K (rCmpG K (fun i j => decide (j < i)) fun d e => PySem.W.dataLt e d) wGt := cmpG_core (fun _ _ _ q => q) fun x y Q n q => by
  unfold wGt at q; split at q
  · exact (n _ _ rfl rfl).elim
  · exact q
theorem k_le : Op2Ok K (rCmpG K (fun i j => decide (i ≤ j)) fun d e => !PySem.W.dataLt e d) wLe := cmpG_core (fun _ _ _ q => q) fun x y Q n q => by
  unfold wLe at q; split at q
  · exact (n _ _ rfl rfl).elim
  · exact q
theorem k_ge : Op2Ok K (rCmpG K (fun i j => decide (j ≤ i)) fun d e => !PySem.W.dataLt d e) wGe := cmpG_core (fun _ _ _ q => q) fun x y Q n q => by
  unfold wGe at q; split at q
  · exact (n _ _ rfl rfl).elim
  · exact q
end

/-! ### sorted(a list) -/
def leD (x y : D) : Bool := PySem.W.dataLe false D.py x y
def sortOk (l : List D) : Prop := (∀ d ∈ l, okD d = true) ∧ PySem.W.AllAlike (l.map D.py) ∧ PySem.W.Sortable (l.map D.py)
def wSorted : D → (B → Prop) → Prop
  | .lst l, Q => sortOk l ∧ Q (.own (.lst (l.mergeSort leD)))
  | _, _ => False
section
variable {X : Cx} {K : PySem.W.Frag}
abbrev leVD (a b : V × D) : Bool := PySem.W.dataLe false (fun p : V × D => p.2.py) a b
def rSortD (K : PySem.W.Frag) : List V → Hp → VK → Prop := fun vs H Q => ∃ (a : Addr) (bs : List (V × D)), vs = [V.ref a] ∧ SqL K H a (bs.map (·.1)) ∧ (∀ b ∈ bs, Dp K H b.1 b.2.py ∧ okD b.2 = true) ∧ PySem.W.AllAlike (bs.map (·.2.py)) ∧ PySem.W.Sortable (bs.map (·.2.py)) ∧
  ∀ p, H p = none → Q (.ref p) (upd H p (.lst ((bs.mergeSort leVD).map (·.1))))
theorem eachIs_of {R : Value → V × D → Prop} : ∀ {bs : List (V × D)} {us : List Value}, Vals (bs.map (·.1)) us → (∀ b ∈ bs, ∀ u, RelV b.1 u → R u b) → PySem.W.EachIs R us bs
  | [], _, .nil, _ => .nil
  | b :: bs, _, .cons r t, h => .cons (h b List.mem_cons_self _ r) (eachIs_of t fun b' hb => h b' (List.mem_cons_of_mem _ hb))
theorem of_eachIs : ∀ {us : List Value} {bs : List (V × D)}, PySem.W.EachIs (fun u b => RelV b.1 u) us bs → Vals (bs.map (·.1)) us
  | _, _, .nil => .nil
  | _, _, .cons r t => .cons r (of_eachIs t)
theorem cr_sortD (hu : X.A.units + 70 < cLine) : CallR X (.builtin "sorted") (rSortD X.K) := by
  intro pins s σ H vs us Q I r ⟨a, bs, e, hs, hb, al, so, q⟩
  subst e
  obtain ⟨its, rv, hl, hsz⟩ := I.list hs
  rw [Vals.ref1 r]
  refine PySem.W.sorted_data (enc := fun p : V × D => p.2.py) (R := fun u b => RelV b.1 u) (vs := its) (bs := bs) hl.isList (eachIs_of rv fun b _ u h => h) (eachIs_of rv fun b h u ru => Dp.reads I _ _ _ (hb b h).1 ru) al so ?_ ?_ ?_
  · have := rv.length
    rw [List.length_map] at this
    first | omega | (simp at hsz; omega)
  · intro b h
    have := SeqAt.depth_of_shaped (hb b h).2
    show X.A.units + 2 + b.2.py.depth < cLine
    omega
  · intro out ho eo
    obtain ⟨ep, he'⟩ := PyProof.Rows.sortedAll_at s.heap its out.toArray
    have hz := rv.length
    have hlen : ((bs.mergeSort leVD).map (·.1)).length ≤ sizeLine := by
      rw [List.length_map, List.length_mergeSort]
      rw [List.length_map] at hz
      first | omega | (simp at hsz; omega)
    exact ⟨.ref _, upd H (s.heap.objs.size + 1) (.lst ((bs.mergeSort leVD).map (·.1))), I.laid (t' := s.toks) (fun _ _ => PyProof.Rows.sortedAll_old) (Nat.le_succ _) ⟨hlen, out, ep, of_eachIs eo, he'⟩, rfl, q _ (I.hok.fresh (Nat.le_succ _))⟩
theorem RepL.pairs {F : Hp} : ∀ {vs : List V} {ds : List D}, RepL K F vs ds → ∃ bs : List (V × D), vs = bs.map (·.1) ∧ ds = bs.map (·.2) ∧ ∀ b ∈ bs, Rep K F b.1 b.2
  | _, _, .nil => ⟨[], rfl, rfl, fun _ h => by cases h⟩
  | _, _, .cons h r => by
    obtain ⟨bs, e1, e2, h2⟩ := RepL.pairs r
    exact ⟨(_, _) :: bs, by rw [e1]; rfl, by rw [e2]; rfl, fun b hb => by
      rcases List.mem_cons.mp hb with e | hb
      · subst e; exact h
      · exact h2 b hb⟩
theorem RepL.ofPairs {F : Hp} : ∀ {bs : List (V × D)}, (∀ b ∈ bs, Rep K F b.1 b.2) → RepL K F (bs.map (·.1)) (bs.map (·.2))
  | [], _ => .nil
  | b :: bs, h => .cons (h b List.mem_cons_self) (RepL.ofPairs fun b' hb => h b' (List.mem_cons_of_mem _ hb))
theorem k_sorted : Op1Ok K (fun x H Q => rSortD K [x] H Q) wSorted := by
  intro O G F σ H E x dx Q Q' r hx q k
  cases dx with
  | lst l =>
    obtain ⟨⟨o1, al, so⟩, q⟩ := q
    obtain ⟨a, vs, rfl, h1, p⟩ := hx.lst r.f
    obtain ⟨bs, e1, e2, h2⟩ := p.pairs
    subst e1 e2
    refine ⟨a, bs, rfl, SqL.of h1, fun b hb => ⟨?_, o1 _ (List.mem_map_of_mem hb)⟩, by rw [List.map_map] at al; exact al, by rw [List.map_map] at so; exact so, fun c hc => k _ _ (.lst r hc (ds := (bs.mergeSort leVD).map (·.2)) (RepL.ofPairs fun b hb => h2 b (List.mem_mergeSort.mp hb)) ?_)⟩
    · exact Rep.dp (SeqAt.canLay_of_shaped (o1 _ (List.mem_map_of_mem hb))) ((h2 b hb).mono r.f)
    · have e : (bs.mergeSort leVD).map (·.2) = (bs.map (·.2)).mergeSort leD := List.map_mergeSort fun a _ b _ => rfl
      rw [e]; exact q
  | _ => exact (show False from q).elim
end
end PW

set_option Elab.async false
set_option linter.all false
set_option autoImplicit false
set_option maxRecDepth 100000
set_option maxHeartbeats 4000000
namespace PW
open PySem PySem.Spec PyProof.Rows L2

/-! ### the defs of a text, by name -/
structure Df (K : PySem.W.Frag) (mg : Str → Option Value) (x : Str) (st : Stmt) (ps : List Str) : Prop where
  ex : ∃ (f : Addr) (fd : FuncData), Fun K x x st f fd ∧ mg x = some (.ref f) ∧ Binds K fd ps []
structure CFn (P : Program) (w : World) (K : PySem.W.Frag) (mg : Str → Option Value) (base : Heap) (k : Nat) (x : Str) (sp : Sp) : Prop where
  ex : ∃ (f : Addr) (fd : FuncData) (ps : List Str), FnOk P w K mg base CX0 k f fd ps sp ∧ mg x = some (.ref f) ∧ PySem.W.keepIn K (.ref f) = true ∧ Binds K fd ps []
abbrev CF (P : Program) (w : World) (K : PySem.W.Frag) (mg : Str → Option Value) (base : Heap) (k : Nat) (x : Str) (fs : FS) : Prop := CFn P w K mg base k x (spF K fs)
abbrev CP (P : Program) (w : World) (K : PySem.W.Frag) (mg : Str → Option Value) (base : Heap) (k : Nat) (x : Str) (fs : PFS) : Prop := CFn P w K mg base k x (spP K fs)
section
variable {P : Program} {w : World} {K : PySem.W.Frag} {mg : Str → Option Value} {base : Heap} {x : Str} {st : Stmt} {ps : List Str} {k : Nat} {sp : Sp}
theorem Df.mk' {f : Addr} {fd : FuncData} (F : Fun K x x st f fd) (m : mg x = some (.ref f)) (b : Binds K fd ps []) : Df K mg x st ps := ⟨f, fd, F, m, b⟩
theorem cf_of (d : Df K mg x st ps) (h : ∀ f fd, Fun K x x st f fd → FnOk P w K mg base CX0 k f fd ps sp) : CFn P w K mg base k x sp := by
  obtain ⟨f, fd, F, m, b⟩ := d
  exact ⟨f, fd, ps, h f fd F, m, F.kp, b⟩
theorem CFn.mono {j : Nat} (c : CFn P w K mg base j x sp) (h : j ≤ k) : CFn P w K mg base k x sp := by
  obtain ⟨f, fd, ps, F, r⟩ := c
  exact ⟨f, fd, ps, F.mono h, r⟩
theorem spF_imp {fs fs' : FS} (h : ∀ ds Pp, fs' ds Pp → fs ds Pp) : ∀ vs H Q E, spF K fs' vs H Q E → spF K fs vs H Q E := fun vs H Q E ⟨G, ds, Pp, a, b, c, d⟩ => ⟨G, ds, Pp, a, b, h _ _ c, d⟩
theorem spP_imp {fs fs' : PFS} (h : ∀ d ds Pp, fs' d ds Pp → fs d ds Pp) : ∀ vs H Q E, spP K fs' vs H Q E → spP K fs vs H Q E := fun vs H Q E ⟨G, p, d, ws, ds, Pp, e, a, b, c, r, z, y⟩ => ⟨G, p, d, ws, ds, Pp, e, a, b, c, r, h _ _ _ z, y⟩
theorem CFn.imp {sp' : Sp} (c : CFn P w K mg base k x sp) (h : ∀ vs H Q E, sp' vs H Q E → sp vs H Q E) : CFn P w K mg base k x sp' := by
  obtain ⟨f, fd, ps, F, r⟩ := c
  exact ⟨f, fd, ps, F.imp h, r⟩
/-- no promise at all: where a recursion's depth has run out -/
theorem cf_none (d : Df K mg x st ps) (h : ∀ vs H Q E, sp vs H Q E → False) : CFn P w K mg base k x sp := cf_of d fun f fd F => ⟨fun vs H Q E q => (h _ _ _ _ q).elim, fun A outer s H args us vs Q E _ _ _ _ q => (h _ _ _ _ q).elim⟩
theorem spF_none {fs : FS} (h : ∀ ds Pp, fs ds Pp → False) : ∀ vs H Q E, spF K fs vs H Q E → False := fun vs H Q E ⟨G, ds, Pp, a, b, c, d⟩ => h _ _ c
end
section
variable {X : Cx} {k : Nat} {x : Str} {p pos : Pos} {e : Expr} {es : List Expr}
theorem ed_f {fs : FS} {a : WA} (c : CF X.prog X.w X.K X.mg X.base k x fs) (hr : Room k X.A) (hg : Gl X x)
    (ha : AD X (e :: es) a) (hdb : (x == ("__debug__" : Str)) = false := by decide) (he : starEach (e :: es) X.env = (false, eval e X.env) :: starEach es X.env := by rfl) (hpl : (backTo pos (starEach es X.env)).any (·.1) = false := by rfl) :
    ED X (.Call (.Name x p) (e :: es) [] pos) (wCall fs a) := by
  obtain ⟨f, fd, ps, F, m, k, b⟩ := c
  exact ed_call F hr hg m k b ha hdb he hpl
theorem ed_f0 {fs : FS} (c : CF X.prog X.w X.K X.mg X.base k x fs) (hr : Room k X.A) (hg : Gl X x) (hdb : (x == ("__debug__" : Str)) = false := by decide) :
    ED X (.Call (.Name x p) [] [] pos) (wCall fs aN) := by
  obtain ⟨f, fd, ps, F, m, k, b⟩ := c
  exact ed_call0 F hr hg m k b hdb
theorem ed_p {i : Nat} {y : Str} {py : Pos} {fs : PFS} {a : WA} (c : CP X.prog X.w X.K X.mg X.base k x fs) (hr : Room k X.A) (hg : Gl X x)
    (hv : PE X (.Name y py) (tVar i)) (ha : AD X es a) (hdb : (x == ("__debug__" : Str)) = false := by decide) (he : starEach (.Name y py :: es) X.env = (false, eval (.Name y py) X.env) :: starEach es X.env := by rfl) (hpl : (backTo pos (starEach es X.env)).any (·.1) = false := by rfl) :
    ED X (.Call (.Name x p) (.Name y py :: es) [] pos) (wCallP i fs a) := by
  obtain ⟨f, fd, ps, F, m, k, b⟩ := c
  exact ed_callP F hr hg m k b hv ha hdb he hpl
end
/-! ### the law's own promise -/
def fLaw (n : Nat) : D → (B → Prop) → Prop := fun a P => ∃ ns : List Int, a = .scr ns ∧ ns.length ≤ n ∧ P (.dat (.bl true))
def spLaw (K : PySem.W.Frag) : Sp := fun vs H Q _ => ∃ (a : Addr) (ns : List Int), vs = [.ref a] ∧ SqL K H a (ns.map V.int) ∧ ns.length ≤ 63 ∧ ∀ H', Q (.bl true) H'
theorem spLaw_of {K : PySem.W.Frag} : ∀ vs H Q E, spLaw K vs H Q E → spF K (fs1 (fLaw 63)) vs H Q E := fun vs H Q E ⟨a, ns, e, hs, hl, q⟩ => by
  subst e
  refine ⟨H, [.scr ns], fun b => b = .dat (.bl true), Sub.refl H, .cons (.scr hs) .nil, ⟨_, rfl, ns, rfl, hl, rfl⟩, fun b v F' H' e _ _ _ r => ?_⟩
  subst e
  have r : Rep K F' v (.bl true) := r
  cases r
  exact q H'

/-! ### methods that change nothing -/
def tyO (T : String) : Option D → Prop
  | some (.str _) => T = "str"
  | some (.lst _) => T = "list"
  | some (.scr _) => T = "list"
  | _ => False
def wMt1 (T : String) (wr : D → D → (B → Prop) → Prop) (wo wa : WO) : WE := fun E Q => wo E fun o E1 => tyO T (o.get E1) ∧ wa E1 fun a E2 => match o.get E2, a.get E2 with
  | some x, some y => wr x y fun b => Q b E2
  | _, _ => False
def wMt0 (T : String) (wr : D → (B → Prop) → Prop) (wo : WO) : WE := fun E Q => wo E fun o E1 => tyO T (o.get E1) ∧ match o.get E1 with
  | some x => wr x fun b => Q b E1
  | _ => False
theorem tyV_of {K : PySem.W.Frag} {F H : Hp} {v : V} {d : D} {T : String} (h : Rdb K F H v d) (s : Sub F H) (t : tyO T (some d)) : tyV K T v H := by
  cases d with
  | str l => rw [h.str]; exact t
  | lst l =>
    obtain ⟨a, vs, rfl, h1, p⟩ := h.lst s
    exact .inl ⟨t, vs, SqL.of h1⟩
  | scr l =>
    obtain ⟨a, rfl, h1⟩ := h.scr s
    exact .inl ⟨t, _, h1⟩
  | _ => exact t.elim
section
variable {K : PySem.W.Frag}
theorem tyO_some {T : String} {o : Option D} (h : tyO T o) : ∃ d, o = some d := by
  cases o with
  | none => exact h.elim
  | some d => exact ⟨d, rfl⟩
theorem ok_mt1 {T : String} {r : V → List V → Hp → VK → Prop} {wr : D → D → (B → Prop) → Prop} {wo wa : WO} (hk : Op2Ok K (fun x y H Q => r x [y] H Q) wr) : EOk K (tBM K T r (tO K wo) (tCons (tO K wa) tNil)) (wMt1 T wr wo wa) := fun O G F σ H E Q r0 q => by
  refine tO_bind r0 q fun x H1 F1 E1 o s1 r1 p1 ⟨ty, q1⟩ => ?_
  obtain ⟨d, ed⟩ := tyO_some ty
  refine ⟨tyV_of (r1.rdb p1 ed) r1.f (by rw [ed] at ty; exact ty), ?_⟩
  refine tO_bind r1 q1 fun y H2 F2 E2 oa s2 r2 p2 q2 => ?_
  split at q2
  · rename_i dx dy ex ey
    refine hk O G F2 σ H2 E2 x y dx dy _ _ r2 (r2.rdb (p1.mono s2) ex) (r2.rdb p2 ey) q2 ?_
    intro v H' ⟨F', b, s3, r3, p3, q3⟩
    exact ⟨F', E2, b, (s1.trans s2).trans s3, r3, p3, q3⟩
  · exact q2.elim
theorem ok_mt0 {T : String} {r : V → List V → Hp → VK → Prop} {wr : D → (B → Prop) → Prop} {wo : WO} (hk : Op1Ok K (fun x H Q => r x [] H Q) wr) : EOk K (tBM0 K T r (tO K wo)) (wMt0 T wr wo) := fun O G F σ H E Q r0 q => by
  refine tO_bind r0 q fun x H1 F1 E1 o s1 r1 p1 ⟨ty, q1⟩ => ?_
  obtain ⟨d, ed⟩ := tyO_some ty
  refine ⟨tyV_of (r1.rdb p1 ed) r1.f (by rw [ed] at ty; exact ty), ?_⟩
  rw [ed] at q1
  refine hk O G F1 σ H1 E1 x d _ _ r1 (r1.rdb p1 ed) q1 ?_
  intro v H' ⟨F', b, s3, r3, p3, q3⟩
  exact ⟨F', E1, b, s1.trans s3, r3, p3, q3⟩
end
section
variable {X : Cx} {o e : Expr} {name : Str} {apos cpos : Pos} {T id : String}
theorem ed_mt1 {r : V → List V → Hp → VK → Prop} {wr : D → D → (B → Prop) → Prop} {wo wa : WO} (pa : PlainAttrs T) (slot : Slot T name id) (hty : typeOf (.builtin id) = pure (.type "method_descriptor")) (hm : MtR X id r) (hk : Op2Ok X.K (fun x y H Q => r x [y] H Q) wr) (ho : OD X o wo) (ha : OD X e wa)
    (hbase : attributeBase o name X.env (eval o X.env) = eval o X.env := by rfl)
    (hfew : ((backTo cpos (starEach [e] X.env)).all (fun x => !x.1) && (backToKw cpos (keywordEach [] X.env)).all (fun x => x.1.isSome)
      && decide ([e].length + ([] : List Keyword).length + (if ([] : List Keyword).isEmpty then 0 else 1) < 30)) = true := by rfl)
    (hline : (apos.endLine == cpos.line) = true := by rfl) (hs : starEach [e] X.env = (false, eval e X.env) :: starEach [] X.env := by rfl) : ED X (.Call (.Attribute o name apos) [e] [] cpos) (wMt1 T wr wo wa) :=
  ed_of (pe_bm pa slot hty hm ho (pa_cons ha pa_nil hs) hbase hfew hline hs) (ok_mt1 hk)
theorem ed_mt0 {r : V → List V → Hp → VK → Prop} {wr : D → (B → Prop) → Prop} {wo : WO} (pa : PlainAttrs T) (slot : Slot T name id) (hty : typeOf (.builtin id) = pure (.type "method_descriptor")) (hm : MtR X id r) (hk : Op1Ok X.K (fun x H Q => r x [] H Q) wr) (ho : OD X o wo)
    (hbase : attributeBase o name X.env (eval o X.env) = eval o X.env := by rfl) (hline : (apos.endLine == cpos.line) = true := by rfl) : ED X (.Call (.Attribute o name apos) [] [] cpos) (wMt0 T wr wo) :=
  ed_of (pe_bm0 pa slot hty hm ho hbase hline) (ok_mt0 hk)
end

/-! ### l.index(x) -/
def idxOf (l : List D) (x : D) : Option Nat := l.findIdx? fun z => eqD z x
def wIndexL (x y : D) (Q : B → Prop) : Prop := match x with
  | .lst l => okD (.lst l) = true ∧ okD y = true ∧ ∃ j, idxOf l y = some j ∧ Q (.dat (.int (j : Nat)))
  | _ => False
section
variable {K : PySem.W.Frag}
theorem pys_get : ∀ {l : List D} {i : Nat}, (D.pys l)[i]? = (l[i]?).map D.py := fun {l i} => by rw [D.pys_map, List.getElem?_map]
theorem k_indexL : Op2Ok K (fun x y H Q => rIndexD K x [y] H Q) wIndexL := by
  intro O G F σ H E x y dx dy Q Q' r hx hy q k
  cases dx with
  | lst l =>
    obtain ⟨o1, o2, j, hj, q⟩ := q
    have hd := hx.dp r.f o1
    obtain ⟨a, vs, rfl, h1, p⟩ := hx.lst r.f
    unfold idxOf at hj
    rw [List.findIdx?_eq_some_iff_getElem] at hj
    obtain ⟨hlt, hz, hno⟩ := hj
    simp only [D.py] at hd o1
    refine ⟨a, y, dy.py, D.pys l, j, (l[j]).py, rfl, rfl, hd, hy.dp r.f o2, o1, o2, by rw [pys_get, List.getElem?_eq_getElem hlt]; rfl, hz, fun m z hm hz' => ?_, k _ _ (.dat r (.int _) q)⟩
    rw [pys_get] at hz'
    have hml : m < l.length := by omega
    rw [List.getElem?_eq_getElem hml] at hz'
    cases hz'
    have := hno m hm
    simpa [eqD] using this
  | _ => exact (show False from q).elim
end
/-! ### sep.join(l) -/
def joinD (a : List Nat) (ss : List (List Nat)) : List Nat := (ss.intersperse a).flatten
def wJoin (x y : D) (Q : B → Prop) : Prop := match x with
  | .str a => ∃ ss : List (List Nat), (y = .lst (ss.map .str) ∨ y = .tup (ss.map .str)) ∧ (ss.map (·.length)).sum + ss.length * a.length ≤ 16777216 ∧ Q (.dat (.str (joinD a ss)))
  | _ => False
def wStarts (x y : D) (Q : B → Prop) : Prop := match x, y with
  | .str a, .str b => Q (.dat (.bl (b.isPrefixOf a)))
  | _, _ => False
def wEnds (x y : D) (Q : B → Prop) : Prop := match x, y with
  | .str a, .str b => Q (.dat (.bl (b.isSuffixOf a)))
  | _, _ => False
end PW

set_option Elab.async false
set_option linter.all false
set_option autoImplicit false
set_option maxRecDepth 100000
set_option maxHeartbeats 4000000
namespace PW
open PySem PySem.Spec PyProof.Rows L2

/-! ### one step of the plain reading each; the goal's head says which -/
/-- the slot i of a written-out state -/
inductive AtR : En → Nat → B → Prop
  | z {b : B} {l : En} : AtR (some b :: l) 0 b
  | s {l : En} {i : Nat} {b : B} {x : Option B} : AtR l i b → AtR (x :: l) (i + 1) b
inductive SetR : En → Nat → Option B → En → Prop
  | z {x y : Option B} {l : En} : SetR (x :: l) 0 y (y :: l)
  | s {l l' : En} {i : Nat} {x y : Option B} : SetR l i y l' → SetR (x :: l) (i + 1) y (x :: l')
theorem AtR.eq : ∀ {E : En} {i : Nat} {b : B}, AtR E i b → E[i]? = some (some b)
  | _, _, _, .z => rfl
  | _, _, _, .s h => by rw [List.getElem?_cons_succ]; exact h.eq
theorem SetR.eq : ∀ {E E' : En} {i : Nat} {y : Option B}, SetR E i y E' → E.set i y = E'
  | _, _, _, _, .z => rfl
  | _, _, _, _, .s h => by rw [List.set_cons_succ, h.eq]
/-- what an operand is -/
inductive GetR : En → Opn → D → Prop
  | v {E : En} {d : D} : GetR E (.val d) d
  | o {E : En} {i : Nat} {d : D} : AtR E i (.own d) → GetR E (.slot i) d
  | p {E : En} {i : Nat} {a : Addr} {d : D} : AtR E i (.par a d) → GetR E (.slot i) d
  | d {E : En} {i : Nat} {d : D} : AtR E i (.dat d) → GetR E (.slot i) d
theorem GetR.eq {E : En} {o : Opn} {d : D} (h : GetR E o d) : o.get E = some d := by
  cases h with
  | v => rfl
  | o h => simp only [Opn.get, h.eq]; rfl
  | p h => simp only [Opn.get, h.eq]; rfl
  | d h => simp only [Opn.get, h.eq]; rfl
/-- hidden continuations -/
def setK (i : Nat) (b : B) (E : En) (nx : En → Prop) : Prop := nx (E.set i (some b))
def opK (wr : D → D → (B → Prop) → Prop) (oa ob : Opn) (E : En) (Q : B → En → Prop) : Prop := match oa.get E, ob.get E with
  | some x, some y => wr x y fun b => Q b E
  | _, _ => False
def unK (wr : D → (B → Prop) → Prop) (oa : Opn) (E : En) (Q : B → En → Prop) : Prop := match oa.get E with
  | some x => wr x fun b => Q b E
  | _ => False
def tstK (b : B) (E : En) (Q : Bool → En → Prop) : Prop := match b with
  | .dat (.bl k) => Q k E
  | _ => False
def valK (b : B) (E : En) (Q : Opn → En → Prop) : Prop := Q (.val b.d) E
def acK (b : B) (r : WA) (E : En) (Q : List D → En → Prop) : Prop := r E fun ds E2 => Q (b.d :: ds) E2
section
variable {E E' : En} {nx bk ct : En → Prop} {rt : B → En → Prop} {a b c : WS} {w wa wb we : WE} {i j : Nat} {Q : B → En → Prop} {QO : Opn → En → Prop} {QT : Bool → En → Prop} {QA : List D → En → Prop} {t u : WT}
  {oa ob : WO} {o o2 : Opn} {x y : D} {bb : B} {P : B → Prop} {A C : Prop} {r : WA} {wr : D → D → (B → Prop) → Prop} {w1 : D → (B → Prop) → Prop}
-- statements
theorem x_seq (h : a ⟨b ⟨nx, rt, bk, ct⟩, rt, bk, ct⟩ E) : sSeq a b ⟨nx, rt, bk, ct⟩ E := h
theorem x_next (h : nx E) : sNext ⟨nx, rt, bk, ct⟩ E := h
theorem x_break (h : bk E) : sBreak ⟨nx, rt, bk, ct⟩ E := h
theorem x_cont (h : ct E) : sCont ⟨nx, rt, bk, ct⟩ E := h
theorem x_ret (h : w E rt) : sRet w ⟨nx, rt, bk, ct⟩ E := h
theorem x_retN (h : rt (.dat .non) E) : sRetN ⟨nx, rt, bk, ct⟩ E := h
theorem x_expr (h : w E fun _ E1 => nx E1) : sExpr w ⟨nx, rt, bk, ct⟩ E := h
theorem x_set (h : w E fun bb E1 => setK i bb E1 nx) : sSet i w ⟨nx, rt, bk, ct⟩ E := h
theorem x_setK (s : SetR E i (some bb) E') (h : nx E') : setK i bb E nx := by unfold setK; rw [s.eq]; exact h
theorem x_if (h : t E fun k E1 => if k = true then a ⟨nx, rt, bk, ct⟩ E1 else b ⟨nx, rt, bk, ct⟩ E1) : sIf t a b ⟨nx, rt, bk, ct⟩ E := h
def parK (i j : Nat) (ds : List D) (E : En) (nx : En → Prop) : Prop := match ds with
  | [x, y] => nx ((E.set i (some (.dat x))).set j (some (.dat y)))
  | _ => False
theorem x_par (h : r E fun ds E1 => parK i j ds E1 nx) : sPar i j r ⟨nx, rt, bk, ct⟩ E := h
theorem x_parK {E'' : En} (s : SetR E i (some (.dat x)) E') (s2 : SetR E' j (some (.dat y)) E'') (h : nx E'') : parK i j [x, y] E nx := by
  show nx ((E.set i (some (.dat x))).set j (some (.dat y))); rw [s.eq, s2.eq]; exact h
def par3K (i j l : Nat) (ds : List D) (E : En) (nx : En → Prop) : Prop := match ds with
  | [x, y, z] => nx (((E.set i (some (.dat x))).set j (some (.dat y))).set l (some (.dat z)))
  | _ => False
theorem x_par3 {l : Nat} (h : r E fun ds E1 => par3K i j l ds E1 nx) : sPar3 i j l r ⟨nx, rt, bk, ct⟩ E := h
theorem x_par3K {l : Nat} {z : D} {E'' E3 : En} (s : SetR E i (some (.dat x)) E') (s2 : SetR E' j (some (.dat y)) E'') (s3 : SetR E'' l (some (.dat z)) E3) (h : nx E3) : par3K i j l [x, y, z] E nx := by
  show nx (((E.set i (some (.dat x))).set j (some (.dat y))).set l (some (.dat z))); rw [s.eq, s2.eq, s3.eq]; exact h
def asgK (g : WG) (b : B) (E : En) (nx : En → Prop) : Prop := g b.d E nx
theorem x_asg {g : WG} (h : w E fun b E1 => asgK g b E1 nx) : sAsg w g ⟨nx, rt, bk, ct⟩ E := h
theorem x_asgKd {g : WG} (h : g x E nx) : asgK g (.dat x) E nx := h
theorem x_asgKo {g : WG} (h : g x E nx) : asgK g (.own x) E nx := h
-- targets
theorem x_gN (s : SetR E i (some (.dat x)) E') (h : nx E') : gN i x E nx := by unfold gN; rw [s.eq]; exact h
theorem x_gT {n : Nat} {ws : WGs} {l : List D} (hl : l.length = n) (h : ws l E nx) : gT n ws (.tup l) E nx := by
  show _ ∧ _
  first | exact ⟨hl, h⟩ | exact ⟨hl.symm, h⟩
theorem x_gsN (h : nx E) : gsN [] E nx := ⟨rfl, h⟩
theorem x_gsC {g : WG} {ws : WGs} {l : List D} (h : g x E fun E1 => ws l E1 nx) : gsC g ws (x :: l) E nx := h
-- tests
theorem x_iteT (h : A) : if true = true then A else C := h
theorem x_iteF (h : C) : if false = true then A else C := h
theorem x_iteD {p : Prop} {_i : Decidable p} (h : p → A) (h' : ¬ p → C) : if decide p = true then A else C := by
  by_cases q : p
  · rw [decide_eq_true q]; exact h q
  · rw [decide_eq_false q]; exact h' q
theorem x_iteN {p : Prop} {_i : Decidable p} (h : ¬ p → A) (h' : p → C) : if (!decide p) = true then A else C := by
  by_cases q : p
  · rw [decide_eq_true q]; exact h' q
  · rw [decide_eq_false q]; exact h q
theorem x_iteB {k : Bool} (h : k = true → A) (h' : k = false → C) : if k = true then A else C := by
  cases k
  · exact h' rfl
  · exact h rfl
theorem x_iteM {k : Bool} (h : k = false → A) (h' : k = true → C) : if (!k) = true then A else C := by
  cases k
  · exact h rfl
  · exact h' rfl
theorem x_tst (h : w E fun b E1 => tstK b E1 QT) : wTst w E QT := h
theorem x_tstK {k : Bool} (h : QT k E) : tstK (.dat (.bl k)) E QT := h
theorem x_and (h : t E fun k E1 => if k = true then u E1 QT else QT false E1) : wAnd t u E QT := h
theorem x_or (h : t E fun k E1 => if k = true then QT true E1 else u E1 QT) : wOr t u E QT := h
theorem x_not (h : t E fun k E1 => QT (!k) E1) : wNot t E QT := h
def truK (o : Opn) (E : En) (Q : Bool → En → Prop) : Prop := match o.get E with
  | some d => truOk d ∧ Q (truD d) E
  | _ => False
theorem x_tru (h : oa E fun o E1 => truK o E1 QT) : wTru oa E QT := h
theorem x_truK (g : GetR E o x) (k : truOk x) (h : QT (truD x) E) : truK o E QT := by unfold truK; rw [g.eq]; exact ⟨k, h⟩
-- values
theorem x_C (h : Q (.dat x) E) : wC x E Q := h
theorem x_Vd (g : AtR E i (.dat x)) (h : Q (.dat x) E) : wV i E Q := by unfold wV; rw [g.eq]; exact h
theorem x_Vo (g : AtR E i (.own x)) (s : SetR E i (some (.dat x)) E') (h : Q (.dat x) E') : wV i E Q := by unfold wV; rw [g.eq]; show Q (.dat x) (E.set i (some (.dat x))); rw [s.eq]; exact h
theorem x_Md (g : AtR E i (.dat x)) (h : Q (.dat x) E) : wM i E Q := by unfold wM; rw [g.eq]; exact h
theorem x_Mo (g : AtR E i (.own x)) (s : SetR E i none E') (h : Q (.own x) E') : wM i E Q := by unfold wM; rw [g.eq]; show Q (.own x) (E.set i none); rw [s.eq]; exact h
theorem x_oVd (g : AtR E i (.dat x)) (h : QO (.val x) E) : oV i E QO := by unfold oV; rw [g.eq]; exact h
theorem x_oVo (g : AtR E i (.own x)) (h : QO (.slot i) E) : oV i E QO := by unfold oV; rw [g.eq]; exact h
theorem x_oVp {p : Addr} (g : AtR E i (.par p x)) (h : QO (.slot i) E) : oV i E QO := by unfold oV; rw [g.eq]; exact h
theorem x_oE (h : w E fun b E1 => valK b E1 QO) : oE w E QO := h
theorem x_valKd (h : QO (.val x) E) : valK (.dat x) E QO := h
theorem x_valKo (h : QO (.val x) E) : valK (.own x) E QO := h
theorem x_op (h : oa E fun o E1 => ob E1 fun o2 E2 => opK wr o o2 E2 Q) : wOp wr oa ob E Q := h
theorem x_opK (g : GetR E o x) (g2 : GetR E o2 y) (h : wr x y fun b => Q b E) : opK wr o o2 E Q := by unfold opK; rw [g.eq, g2.eq]; exact h
theorem x_un (h : oa E fun o E1 => unK w1 o E1 Q) : wUn w1 oa E Q := h
theorem x_unK (g : GetR E o x) (h : w1 x fun b => Q b E) : unK w1 o E Q := by unfold unK; rw [g.eq]; exact h
theorem x_ifE (h : t E fun k E1 => if k = true then wa E1 Q else wb E1 Q) : wIf t wa wb E Q := h
def andK (u : WE) (b : B) (E : En) (Q : B → En → Prop) : Prop := match b with
  | .dat (.bl k) => if k = true then u E Q else Q (.dat (.bl false)) E
  | _ => False
def orK (u : WE) (b : B) (E : En) (Q : B → En → Prop) : Prop := match b with
  | .dat (.bl k) => if k = true then Q (.dat (.bl true)) E else u E Q
  | _ => False
def notK (b : B) (E : En) (Q : B → En → Prop) : Prop := match b with
  | .dat (.bl k) => Q (.dat (.bl (!k))) E
  | _ => False
theorem x_andV (h : wa E fun b E1 => andK wb b E1 Q) : wAndV wa wb E Q := h
theorem x_orV (h : wa E fun b E1 => orK wb b E1 Q) : wOrV wa wb E Q := h
theorem x_notV (h : wa E fun b E1 => notK b E1 Q) : wNotV wa E Q := h
theorem x_andK {k : Bool} (h : if k = true then we E Q else Q (.dat (.bl false)) E) : andK we (.dat (.bl k)) E Q := h
theorem x_orK {k : Bool} (h : if k = true then Q (.dat (.bl true)) E else we E Q) : orK we (.dat (.bl k)) E Q := h
theorem x_notK {k : Bool} (h : Q (.dat (.bl (!k))) E) : notK (.dat (.bl k)) E Q := h
-- several values
theorem x_aN (h : QA [] E) : aN E QA := h
theorem x_aC (h : w E fun b E1 => acK b r E1 QA) : aC w r E QA := h
theorem x_acKd (h : r E fun ds E2 => QA (x :: ds) E2) : acK (.dat x) r E QA := h
theorem x_acKo (h : r E fun ds E2 => QA (x :: ds) E2) : acK (.own x) r E QA := h
def tupK (ds : List D) (E : En) (Q : B → En → Prop) : Prop := ds.length ≤ 16777216 ∧ Q (.dat (.tup ds)) E
def lstK (ds : List D) (E : En) (Q : B → En → Prop) : Prop := ds.length ≤ 16777216 ∧ Q (.own (.lst ds)) E
theorem x_tup (h : r E fun ds E1 => tupK ds E1 Q) : wTup r E Q := h
theorem x_lst (h : r E fun ds E1 => lstK ds E1 Q) : wLst r E Q := h
theorem x_tupK {ds : List D} (g : ds.length ≤ 16777216) (h : Q (.dat (.tup ds)) E) : tupK ds E Q := ⟨g, h⟩
theorem x_lstK {ds : List D} (g : ds.length ≤ 16777216) (h : Q (.own (.lst ds)) E) : lstK ds E Q := ⟨g, h⟩
-- calls
theorem x_call {fs : FS} (h : r E fun ds E1 => fs ds fun b => Q b E1) : wCall fs r E Q := h
theorem x_fs0 {f : (B → Prop) → Prop} (h : f P) : fs0 f [] P := ⟨rfl, h⟩
theorem x_fs1 {f : D → (B → Prop) → Prop} {d1 : D} (h : f d1 P) : fs1 f [d1] P := ⟨_, rfl, h⟩
theorem x_fs2 {f : D → D → (B → Prop) → Prop} {d1 d2 : D} (h : f d1 d2 P) : fs2 f [d1, d2] P := ⟨_, _, rfl, h⟩
theorem x_fs3 {f : D → D → D → (B → Prop) → Prop} {d1 d2 d3 : D} (h : f d1 d2 d3 P) : fs3 f [d1, d2, d3] P := ⟨_, _, _, rfl, h⟩
theorem x_fs4 {f : D → D → D → D → (B → Prop) → Prop} {d1 d2 d3 d4 : D} (h : f d1 d2 d3 d4 P) : fs4 f [d1, d2, d3, d4] P := ⟨_, _, _, _, rfl, h⟩
theorem x_fs5 {f : D → D → D → D → D → (B → Prop) → Prop} {d1 d2 d3 d4 d5 : D} (h : f d1 d2 d3 d4 d5 P) : fs5 f [d1, d2, d3, d4, d5] P := ⟨_, _, _, _, _, rfl, h⟩
theorem x_fs6 {f : D → D → D → D → D → D → (B → Prop) → Prop} {d1 d2 d3 d4 d5 d6 : D} (h : f d1 d2 d3 d4 d5 d6 P) : fs6 f [d1, d2, d3, d4, d5, d6] P := ⟨_, _, _, _, _, _, rfl, h⟩
def cpK (i : Nat) (fs : PFS) (ds : List D) (E : En) (Q : B → En → Prop) : Prop := match E[i]? with
  | some (some b) => b.mu = true ∧ fs b.d ds fun c d' => Q c (E.set i (some (b.put d')))
  | _ => False
theorem x_callP {fs : PFS} (g : AtR E i bb) (h : r E fun ds E1 => cpK i fs ds E1 Q) : wCallP i fs r E Q := ⟨by unfold hasE; rw [g.eq]; trivial, h⟩
def putK (i : Nat) (b : B) (d : D) (E : En) (Q : En → Prop) : Prop := Q (E.set i (some (b.put d)))
theorem x_putKo {QE : En → Prop} (s : SetR E i (some (.own y)) E') (h : QE E') : putK i (.own x) y E QE := by unfold putK; show QE (E.set i (some (.own y))); rw [s.eq]; exact h
theorem x_putKp {p : Addr} {QE : En → Prop} (s : SetR E i (some (.par p y)) E') (h : QE E') : putK i (.par p x) y E QE := by unfold putK; show QE (E.set i (some (.par p y))); rw [s.eq]; exact h
theorem x_cpKo {fs : PFS} {ds : List D} (g : AtR E i (.own x)) (h : fs x ds fun c d' => putK i (.own x) d' E (Q c)) : cpK i fs ds E Q := by unfold cpK; rw [g.eq]; exact ⟨rfl, h⟩
theorem x_cpKp {p : Addr} {fs : PFS} {ds : List D} (g : AtR E i (.par p x)) (h : fs x ds fun c d' => putK i (.par p x) d' E (Q c)) : cpK i fs ds E Q := by unfold cpK; rw [g.eq]; exact ⟨rfl, h⟩
variable {PP : B → D → Prop}
theorem x_ps0 {f : D → (B → D → Prop) → Prop} {d : D} (h : f d PP) : ps0 f d [] PP := ⟨rfl, h⟩
theorem x_ps1 {f : D → D → (B → D → Prop) → Prop} {d d1 : D} (h : f d d1 PP) : ps1 f d [d1] PP := ⟨_, rfl, h⟩
theorem x_ps2 {f : D → D → D → (B → D → Prop) → Prop} {d d1 d2 : D} (h : f d d1 d2 PP) : ps2 f d [d1, d2] PP := ⟨_, _, rfl, h⟩
theorem x_ps3 {f : D → D → D → D → (B → D → Prop) → Prop} {d d1 d2 d3 : D} (h : f d d1 d2 d3 PP) : ps3 f d [d1, d2, d3] PP := ⟨_, _, _, rfl, h⟩
theorem x_ps4 {f : D → D → D → D → D → (B → D → Prop) → Prop} {d d1 d2 d3 d4 : D} (h : f d d1 d2 d3 d4 PP) : ps4 f d [d1, d2, d3, d4] PP := ⟨_, _, _, _, rfl, h⟩
theorem x_end {p : Addr} {d : D} {l : En} (h : PP bb d) : endP p PP bb (some (.par p d) :: l) := ⟨d, rfl, h⟩
-- methods that change
def mtK (i : Nat) (m : WM1) (yb : B) (E : En) (Q : B → En → Prop) : Prop := match E[i]? with
  | some (some b) => b.mu = true ∧ m b.d yb.d fun res new => Q (.dat res) (E.set i (some (b.put new)))
  | _ => False
theorem x_mut1o {T : String} {m : WM1} (g : AtR E i (.own x)) (ht : tyD T x) (h : we E fun b E1 => mtK i m b E1 Q) : wMut1 T i m we E Q := ⟨by unfold tyE; rw [g.eq]; exact ⟨ht, rfl⟩, h⟩
theorem x_mut1p {T : String} {m : WM1} {p : Addr} (g : AtR E i (.par p x)) (ht : tyD T x) (h : we E fun b E1 => mtK i m b E1 Q) : wMut1 T i m we E Q := ⟨by unfold tyE; rw [g.eq]; exact ⟨ht, rfl⟩, h⟩
theorem x_mtKod {m : WM1} (g : AtR E i (.own x)) (h : m x y fun res new => putK i (.own x) new E (Q (.dat res))) : mtK i m (.dat y) E Q := by unfold mtK; rw [g.eq]; exact ⟨rfl, h⟩
theorem x_mtKoo {m : WM1} (g : AtR E i (.own x)) (h : m x y fun res new => putK i (.own x) new E (Q (.dat res))) : mtK i m (.own y) E Q := by unfold mtK; rw [g.eq]; exact ⟨rfl, h⟩
theorem x_mtKpd {m : WM1} {p : Addr} (g : AtR E i (.par p x)) (h : m x y fun res new => putK i (.par p x) new E (Q (.dat res))) : mtK i m (.dat y) E Q := by unfold mtK; rw [g.eq]; exact ⟨rfl, h⟩
theorem x_mtKpo {m : WM1} {p : Addr} (g : AtR E i (.par p x)) (h : m x y fun res new => putK i (.par p x) new E (Q (.dat res))) : mtK i m (.own y) E Q := by unfold mtK; rw [g.eq]; exact ⟨rfl, h⟩
variable {PM : D → D → Prop} {l m : List D}
theorem x_append (k : l.length < 16777216) (h : PM .non (.lst (l ++ [x]))) : mAppend (.lst l) x PM := ⟨k, h⟩
theorem x_extend (k : l.length + m.length ≤ 16777216) (h : PM .non (.lst (l ++ m))) : mExtend (.lst l) (.lst m) PM := ⟨k, h⟩
theorem x_mut0o {T : String} {mm : WM0} (g : AtR E i (.own x)) (ht : tyD T x) (h : mm x fun res new => putK i (.own x) new E (Q (.dat res))) : wMut0 T i mm E Q := by unfold wMut0; rw [g.eq]; exact ⟨⟨ht, rfl⟩, h⟩
theorem x_mut0p {T : String} {mm : WM0} {p : Addr} (g : AtR E i (.par p x)) (ht : tyD T x) (h : mm x fun res new => putK i (.par p x) new E (Q (.dat res))) : wMut0 T i mm E Q := by unfold wMut0; rw [g.eq]; exact ⟨⟨ht, rfl⟩, h⟩
theorem x_pop0 (k : l[l.length - 1]? = some x) (h : PM x (.lst l.dropLast)) : mPop0 (.lst l) PM := ⟨x, k, h⟩
-- o[k] = v
def subK (i : Nat) (wi : WE) (v : B) (E : En) (nx : En → Prop) : Prop := hasE E i ∧ wi E fun k E2 => match E2[i]? with
  | some (some b) => b.mu = true ∧ setD b.d k.d v.d fun new => nx (E2.set i (some (b.put new)))
  | _ => False
def subK2 (i : Nat) (v : B) (k : B) (E : En) (nx : En → Prop) : Prop := match E[i]? with
  | some (some b) => b.mu = true ∧ setD b.d k.d v.d fun new => nx (E.set i (some (b.put new)))
  | _ => False
theorem x_sub (h : we E fun v E1 => subK i wa v E1 nx) : sSub i wa we ⟨nx, rt, bk, ct⟩ E := h
theorem x_subK (g : AtR E i bb) {v : B} (h : wa E fun k E2 => subK2 i v k E2 nx) : subK i wa v E nx := ⟨by unfold hasE; rw [g.eq]; trivial, h⟩
theorem x_subKo {v k : B} (g : AtR E i (.own x)) (h : setD x k.d v.d fun new => putK i (.own x) new E nx) : subK2 i v k E nx := by unfold subK2; rw [g.eq]; exact ⟨rfl, h⟩
theorem x_subKp {v k : B} {p : Addr} (g : AtR E i (.par p x)) (h : setD x k.d v.d fun new => putK i (.par p x) new E nx) : subK2 i v k E nx := by unfold subK2; rw [g.eq]; exact ⟨rfl, h⟩
-- loops
def itK (b : B) (E : En) (Q : List D → En → Prop) : Prop := ∃ ds, itemsD b.d = some ds ∧ Q ds E
theorem x_iS (h : w E fun b E1 => itK b E1 QA) : iS w E QA := h
theorem x_itKld (h : QA l E) : itK (.dat (.lst l)) E QA := ⟨l, rfl, h⟩
theorem x_itKlo (h : QA l E) : itK (.own (.lst l)) E QA := ⟨l, rfl, h⟩
theorem x_itKtd (h : QA l E) : itK (.dat (.tup l)) E QA := ⟨l, rfl, h⟩
theorem x_itKsd {s : List Nat} (h : QA (s.map fun c => .str [c]) E) : itK (.dat (.str s)) E QA := ⟨_, rfl, h⟩
theorem x_itKc {s : List Int} (h : QA (s.map .int) E) : itK (.dat (.scr s)) E QA := ⟨_, rfl, h⟩
theorem x_itKdd {t : Bool} {kd : List (D × D)} (h : QA (kd.map (·.1)) E) : itK (.dat (.dct t kd)) E QA := ⟨_, rfl, h⟩
theorem x_itKdo {t : Bool} {kd : List (D × D)} (h : QA (kd.map (·.1)) E) : itK (.own (.dct t kd)) E QA := ⟨_, rfl, h⟩
def forK (g : WG) (a : WS) (D0 : EndP) (ds : List D) (E1 : En) : Prop := ∃ W : Nat → En → Prop, W 0 E1 ∧
  (∀ i d E', ds[i]? = some d → W i E' → g d E' fun E2 => a { D0 with nx := W (i + 1), ct := W (i + 1), bk := D0.nx } E2) ∧ ∀ E', W ds.length E' → D0.nx E'
theorem x_for {wi : WI} {g : WG} (h : wi E fun ds E1 => forK g a ⟨nx, rt, bk, ct⟩ ds E1) : sFor wi g a ⟨nx, rt, bk, ct⟩ E := h
theorem x_forK {g : WG} {ds : List D} (W : Nat → En → Prop) (h0 : W 0 E) (hs : ∀ i d E', ds[i]? = some d → W i E' → g d E' fun E2 => a ⟨W (i + 1), rt, nx, W (i + 1)⟩ E2) (hd : ∀ E', W ds.length E' → nx E') : forK g a ⟨nx, rt, bk, ct⟩ ds E := ⟨W, h0, hs, hd⟩
theorem x_while (W : Nat → En → Prop) (m0 : Nat) (h0 : W m0 E) (hs : ∀ m E', W m E' → t E' fun k E1 => if k = true then a ⟨fun E'' => ∃ m', m' < m ∧ W m' E'', rt, nx, fun E'' => ∃ m', m' < m ∧ W m' E''⟩ E1 else nx E1) : sWhile t a ⟨nx, rt, bk, ct⟩ E := ⟨W, ⟨m0, h0⟩, hs⟩
def r1K (b : B) (E : En) (Q : List D → En → Prop) : Prop := match b.d with
  | .int n => (-(2 ^ 62) ≤ n ∧ n < 2 ^ 62) ∧ Q (rng 0 n.toNat) E
  | _ => False
def r2K (a b : B) (E : En) (Q : List D → En → Prop) : Prop := match a.d, b.d with
  | .int i, .int j => (-(2 ^ 62) ≤ i ∧ i < 2 ^ 62 ∧ -(2 ^ 62) ≤ j ∧ j < 2 ^ 62) ∧ Q (rng i (j - i).toNat) E
  | _, _ => False
theorem x_iR1 (h : w E fun b E1 => r1K b E1 QA) : iR1 w E QA := h
theorem x_iR2 (h : wa E fun b E1 => wb E1 fun b2 E2 => r2K b b2 E2 QA) : iR2 wa wb E QA := h
theorem x_r1K {n : Int} (k : -(2 ^ 62) ≤ n ∧ n < 2 ^ 62) (h : QA (rng 0 n.toNat) E) : r1K (.dat (.int n)) E QA := ⟨k, h⟩
theorem x_r2K {n m : Int} (k : -(2 ^ 62) ≤ n ∧ n < 2 ^ 62 ∧ -(2 ^ 62) ≤ m ∧ m < 2 ^ 62) (h : QA (rng n (m - n).toNat) E) : r2K (.dat (.int n)) (.dat (.int m)) E QA := ⟨k, h⟩
-- comprehensions
def lcK (wg : WG) (wt : WT) (we : WE) (vs : List Nat) (ds : List D) (E1 : En) (Q : B → En → Prop) : Prop := ∃ W : Nat → List D → En → Prop, W 0 [] (wipeE E1 vs) ∧
  (∀ i d acc E', ds[i]? = some d → W i acc E' → wg d E' fun E2 => wt E2 fun b E3 => if b = true then we E3 fun y E4 => acc.length < 16777216 ∧ W (i + 1) (acc ++ [y.d]) (wipeE E4 vs) else W (i + 1) acc (wipeE E3 vs)) ∧
  ∀ acc E', W ds.length acc E' → Q (.own (.lst acc)) (backE E' E1 vs)
theorem x_lc {wi : WI} {wg : WG} {vs : List Nat} (h : wi E fun ds E1 => lcK wg t we vs ds E1 Q) : wLc wi wg t we vs E Q := h
/-- what one item gives -/
def ltK (vs : List Nat) (E0 : En) (R : D → Prop) (b : B) (E : En) : Prop := R b.d ∧ wipeE E vs = E0
variable {wg : WG} {vs : List Nat} {ds : List D}
theorem x_lcK (W : Nat → List D → En → Prop) (h0 : W 0 [] (wipeE E vs)) (hs : ∀ i d acc E', ds[i]? = some d → W i acc E' → wg d E' fun E2 => t E2 fun b E3 => if b = true then we E3 fun y E4 => acc.length < 16777216 ∧ W (i + 1) (acc ++ [y.d]) (wipeE E4 vs) else W (i + 1) acc (wipeE E3 vs))
    (hd : ∀ acc E', W ds.length acc E' → Q (.own (.lst acc)) (backE E' E vs)) : lcK wg t we vs ds E Q := ⟨W, h0, hs, hd⟩
theorem take_snoc {α : Type} {l : List α} {i : Nat} {x : α} (h : l[i]? = some x) : l.take (i + 1) = l.take i ++ [x] := by
  rw [List.take_succ, h]; rfl
/-- the items with p, each f of it -/
def fW (p : D → Bool) (f : D → D) (ds : List D) (E0 : En) : Nat → List D → En → Prop := fun i acc E' => acc = ((ds.take i).filter p).map f ∧ E' = E0
def yK (p : D → Bool) (f : D → D) (ds : List D) (vs : List Nat) (E0 : En) (i : Nat) (y : B) (E4 : En) : Prop := (((ds.take i).filter p).map f).length < 16777216 ∧ fW p f ds E0 (i + 1) (((ds.take i).filter p).map f ++ [y.d]) (wipeE E4 vs)
def nK (p : D → Bool) (f : D → D) (ds : List D) (vs : List Nat) (E0 : En) (i : Nat) (E3 : En) : Prop := fW p f ds E0 (i + 1) (((ds.take i).filter p).map f) (wipeE E3 vs)
theorem x_lcF (p : D → Bool) (f : D → D) {E0 E9 : En} (e0 : wipeE E vs = E0) (e9 : backE E0 E vs = E9) (hs : ∀ (i : Nat) (d : D), ds[i]? = some d → wg d E0 fun E2 => t E2 fun b E3 => if b = true then we E3 (yK p f ds vs E0 i) else nK p f ds vs E0 i E3)
    (hd : Q (.own (.lst ((ds.filter p).map f))) E9) : lcK wg t we vs ds E Q := by
  subst e0 e9
  refine x_lcK (fW p f ds (wipeE E vs)) ⟨rfl, rfl⟩ ?_ ?_
  · rintro i d acc E' hi ⟨rfl, rfl⟩
    exact hs i d hi
  · rintro acc E' ⟨rfl, rfl⟩
    rw [List.take_length]; exact hd
theorem x_lcM (f : D → D) {E0 E9 : En} (e0 : wipeE E vs = E0) (e9 : backE E0 E vs = E9) (hs : ∀ (i : Nat) (d : D), ds[i]? = some d → wg d E0 fun E2 => t E2 fun b E3 => if b = true then we E3 (yK (fun _ => true) f ds vs E0 i) else nK (fun _ => true) f ds vs E0 i E3)
    (hd : Q (.own (.lst (ds.map f))) E9) : lcK wg t we vs ds E Q := x_lcF (fun _ => true) f e0 e9 hs (by rw [List.filter_eq_self.mpr fun _ _ => rfl]; exact hd)
theorem yK_of {p : D → Bool} {f : D → D} {E0 E4 : En} {d : D} {yb : B} (hi : ds[i]? = some d) (hl : ds.length ≤ 16777216) (hp : p d = true) (hf : yb.d = f d) (hw : wipeE E4 vs = E0) : yK p f ds vs E0 i yb E4 := by
  refine ⟨?_, ?_, hw⟩
  · rw [List.length_map]
    have := List.length_filter_le p (ds.take i)
    rw [List.length_take] at this
    have := (List.getElem?_eq_some_iff.mp hi).1
    omega
  · rw [take_snoc hi, List.filter_append, List.filter_cons_of_pos hp, List.map_append, hf]; rfl
theorem nK_of {p : D → Bool} {f : D → D} {E0 E3 : En} {d : D} (hi : ds[i]? = some d) (hp : p d = false) (hw : wipeE E3 vs = E0) : nK p f ds vs E0 i E3 := by
  refine ⟨?_, hw⟩
  rw [take_snoc hi, List.filter_append, List.filter_cons_of_neg (by rw [hp]; decide)]; simp
/-- each item gives some value with Pd; J holds between -/
def aW (Pd : Nat → D → Prop) (J : En → Prop) (n : Nat) : Nat → List D → En → Prop := fun i acc E' => acc.length = i ∧ i ≤ n ∧ (∀ (j : Nat) (x : D), acc[j]? = some x → Pd j x) ∧ J E'
def aK (Pd : Nat → D → Prop) (J : En → Prop) (vs : List Nat) (n i : Nat) (acc : List D) (y : B) (E4 : En) : Prop := acc.length < 16777216 ∧ aW Pd J n (i + 1) (acc ++ [y.d]) (wipeE E4 vs)
theorem aK_of {Pd : Nat → D → Prop} {J : En → Prop} {n : Nat} {acc : List D} {yb : B} {E4 : En} (hl : n ≤ 16777216) (h : aW Pd J n i acc E') (hn : i < n) (h1 : Pd i yb.d) (h2 : J (wipeE E4 vs)) : aK Pd J vs n i acc yb E4 := by
  obtain ⟨e, l, k, _⟩ := h
  refine ⟨by omega, by simp [e], by omega, fun j x hx => ?_, h2⟩
  rcases Nat.lt_or_ge j acc.length with hj | hj
  · rw [List.getElem?_append_left hj] at hx; exact k j x hx
  · rw [List.getElem?_append_right hj] at hx
    have : j - acc.length = 0 := by
      cases z : j - acc.length with
      | zero => rfl
      | succ m => rw [z] at hx; simp at hx
    rw [this] at hx
    cases hx
    have : j = i := by omega
    subst this; exact h1
theorem x_lcA (Pd : Nat → D → Prop) (J : En → Prop) (h0 : J (wipeE E vs)) (hs : ∀ (i : Nat) (d : D) (acc : List D) (E' : En), ds[i]? = some d → i < ds.length → J E' → aW Pd J ds.length i acc E' → wg d E' fun E2 => t E2 fun b E3 => if b = true then we E3 (aK Pd J vs ds.length i acc) else False)
    (ht : t = wYes) (hd : ∀ acc E', acc.length = ds.length → (∀ (j : Nat) (x : D), acc[j]? = some x → Pd j x) → J E' → Q (.own (.lst acc)) (backE E' E vs)) : lcK wg t we vs ds E Q := by
  subst ht
  refine x_lcK (aW Pd J ds.length) ⟨rfl, Nat.zero_le _, fun j x h => by simp at h, h0⟩ ?_ ?_
  · intro i d acc E' hi h
    exact hs i d acc E' hi (List.getElem?_eq_some_iff.mp hi).1 h.2.2.2 h
  · rintro acc E' ⟨e, _, k, j⟩
    exact hd acc E' e k j
end
end PW

set_option Elab.async false
set_option linter.all false
set_option autoImplicit false
set_option maxRecDepth 100000
set_option maxHeartbeats 4000000
namespace PW
open PySem PySem.Spec PyProof.Rows L2

/-! ### small facts about data -/
theorem okD_int (i : Int) : okD (.int i) = true := rfl
/-- a text's signs are code points -/
def okS (s : List Nat) : Prop := ∀ c ∈ s, c < 1114112
theorem okS_app {a b : List Nat} (h : okS a) (h' : okS b) : okS (a ++ b) := fun c hc => by
  rcases List.mem_append.mp hc with z | z
  · exact h c z
  · exact h' c z
theorem lay_str {s : List Nat} (h : okS s) : PyData.canLay0 (.str (mkS s)) = true := by
  simp only [PyData.canLay0]
  show (mkS s).cps.all _ = true
  rw [Array.all_eq_true_iff_forall_mem]
  intro c hc
  exact decide_eq_true (h c (by simpa [mkS] using hc))
theorem okD_bl (b : Bool) : okD (.bl b) = true := rfl
theorem okD_non : okD .non = true := rfl
theorem eqD_int (i j : Int) : eqD (.int i) (.int j) = decide (i = j) := by
  show PyData.eqv (.int i) (.int j) = _
  by_cases h : i = j
  · subst h; simp [PyData.eqv]
  · simp [PyData.eqv, h]
theorem eqD_bl (a b : Bool) : eqD (.bl a) (.bl b) = (a == b) := by
  show PyData.eqv (.bool a) (.bool b) = _
  cases a <;> cases b <;> rfl
theorem canLayAll_of {l : List D} (h : ∀ d ∈ l, PyData.canLay0 d.py = true) : PyData.canLayAll0 (D.pys l) = true := by
  induction l with
  | nil => simp [D.pys, PyData.canLayAll0]
  | cons d l ih =>
    simp only [D.pys, PyData.canLayAll0, Bool.and_eq_true]
    exact ⟨h d List.mem_cons_self, ih fun d' hd => h d' (List.mem_cons_of_mem _ hd)⟩
theorem depthAll_of {l : List D} {n : Nat} (h : ∀ d ∈ l, d.py.depth ≤ n) : PyData.depthAll (D.pys l) ≤ n := by
  induction l with
  | nil => simp [D.pys, PyData.depthAll]
  | cons d l ih =>
    simp only [D.pys, PyData.depthAll]
    have h1 := h d List.mem_cons_self
    have h2 := ih fun d' hd => h d' (List.mem_cons_of_mem _ hd)
    omega
/-- laid out, and so deep at most -/
def okN (n : Nat) (d : D) : Prop := PyData.canLay0 d.py = true ∧ d.py.depth ≤ n
theorem okN.mono {n m : Nat} {d : D} (h : okN n d) (l : n ≤ m) : okN m d := ⟨h.1, Nat.le_trans h.2 l⟩
theorem okN.ok {n : Nat} {d : D} (h : okN n d) (l : n ≤ 64 := by decide) : okD d = true := by
  show (PyData.canLay0 d.py && decide (d.py.depth ≤ 64)) = true
  rw [h.1, decide_eq_true (Nat.le_trans h.2 l)]; rfl
theorem okN_int {n : Nat} (i : Int) : okN n (.int i) := ⟨rfl, Nat.zero_le _⟩
theorem okN_str {n : Nat} {s : List Nat} (h : okS s) : okN n (.str s) := ⟨by simp only [D.py]; exact lay_str h, Nat.zero_le _⟩
theorem okD_str {s : List Nat} (h : okS s) : okD (.str s) = true := (okN_str (n := 0) h).ok
theorem okN_bl {n : Nat} (b : Bool) : okN n (.bl b) := ⟨rfl, Nat.zero_le _⟩
theorem okN_non {n : Nat} : okN n .non := ⟨rfl, Nat.zero_le _⟩
theorem okN_lst {n : Nat} {l : List D} (h : ∀ d ∈ l, okN n d) : okN (n + 1) (.lst l) := by
  refine ⟨?_, ?_⟩
  · simp only [D.py, PyData.canLay0]
    exact canLayAll_of fun d hd => (h d hd).1
  · have := depthAll_of fun d hd => (h d hd).2
    simp only [D.py, PyData.depth]
    omega
theorem okN_tup {n : Nat} {l : List D} (h : ∀ d ∈ l, okN n d) : okN (n + 1) (.tup l) := by
  refine ⟨?_, ?_⟩
  · simp only [D.py, PyData.canLay0]
    exact canLayAll_of fun d hd => (h d hd).1
  · have := depthAll_of fun d hd => (h d hd).2
    simp only [D.py, PyData.depth]
    omega
theorem all_cons {α : Type} {p : α → Prop} {a : α} {l : List α} (h : p a) (h' : ∀ x ∈ l, p x) : ∀ x ∈ a :: l, p x := fun x hx => by
  rcases List.mem_cons.mp hx with e | hx
  · subst e; exact h
  · exact h' x hx
theorem all_nil {α : Type} {p : α → Prop} : ∀ x ∈ ([] : List α), p x := fun x hx => by cases hx
def eqDs : List D → List D → Bool
  | [], [] => true
  | x :: l, y :: m => eqD x y && eqDs l m
  | _, _ => false
theorem eqvAll_pys : ∀ l m : List D, PyData.eqvAll (D.pys l) (D.pys m) = eqDs l m
  | [], [] => by simp [D.pys, PyData.eqvAll, eqDs]
  | [], _ :: _ => by simp [D.pys, PyData.eqvAll, eqDs]
  | _ :: _, [] => by simp [D.pys, PyData.eqvAll, eqDs]
  | x :: l, y :: m => by
    simp only [D.pys, PyData.eqvAll, eqDs, eqvAll_pys l m]; rfl
theorem eqD_lst (l m : List D) : eqD (.lst l) (.lst m) = eqDs l m := by
  show PyData.eqv (D.lst l).py (D.lst m).py = _
  simp only [D.py, PyData.eqv]; exact eqvAll_pys l m
theorem eqD_tup (l m : List D) : eqD (.tup l) (.tup m) = eqDs l m := by
  show PyData.eqv (D.tup l).py (D.tup m).py = _
  simp only [D.py, PyData.eqv]; exact eqvAll_pys l m
/-- of data of one kind, == is equality -/
theorem eqDs_map {α : Type} {f : α → D} (h : ∀ a b, eqD (f a) (f b) = true ↔ a = b) : ∀ l m : List α, eqDs (l.map f) (m.map f) = true ↔ l = m
  | [], [] => by simp [eqDs]
  | [], _ :: _ => by simp [eqDs]
  | _ :: _, [] => by simp [eqDs]
  | x :: l, y :: m => by
    simp only [List.map_cons, eqDs, Bool.and_eq_true, h, eqDs_map h l m, List.cons.injEq]
theorem eqDs_dec {α : Type} [DecidableEq α] {f : α → D} (h : ∀ a b, eqD (f a) (f b) = true ↔ a = b) (l m : List α) : eqDs (l.map f) (m.map f) = decide (l = m) := by
  rw [Bool.eq_iff_iff, eqDs_map h, decide_eq_true_iff]
theorem eqI (a b : Int) : eqD (.int a) (.int b) = true ↔ a = b := by rw [eqD_int, decide_eq_true_iff]
theorem eqS (a b : List Nat) : eqD (.str a) (.str b) = true ↔ a = b := by rw [eqD_str, decide_eq_true_iff]
theorem anyD_map {α : Type} [DecidableEq α] {f : α → D} (h : ∀ a b, eqD (f a) (f b) = true ↔ a = b) (x : α) (l : List α) : anyD (f x) (l.map f) = decide (x ∈ l) := by
  rw [Bool.eq_iff_iff, decide_eq_true_iff, anyD, List.any_map, List.any_eq_true]
  constructor
  · rintro ⟨y, hy, e⟩
    have := (h y x).mp e
    subst this; exact hy
  · intro hx; exact ⟨x, hx, (h x x).mpr rfl⟩
theorem atI_nat {α : Type} (l : List α) (i : Nat) : atI l (i : Int) = l[i]? := by
  unfold L2.atI L2.ixN
  by_cases h : i < l.length
  · rw [if_pos (by omega), if_pos (by omega)]; simp
  · rw [if_pos (by omega), if_neg (by omega)]
    simp only [Option.bind_none]
    rw [List.getElem?_eq_none (by omega)]
theorem atI_pos {α : Type} {l : List α} {i : Int} (h : 0 ≤ i) : atI l i = l[i.toNat]? := by
  obtain ⟨n, rfl⟩ := Int.eq_ofNat_of_zero_le h
  rw [atI_nat]; rfl
theorem atI_last {α : Type} (l : List α) : atI l (-1) = l.getLast? := by
  unfold L2.atI L2.ixN
  rw [if_neg (by decide)]
  by_cases h : l.length = 0
  · have : l = [] := List.eq_nil_of_length_eq_zero h
    subst this; rfl
  · rw [if_pos (by omega)]
    simp only [Option.bind_some]
    rw [List.getLast?_eq_getElem?]
    congr 1
    omega

/-! ### operations on values, by the operands' kinds -/
section
variable {P : B → Prop} {i j : Int} {a b : List Nat} {l m : List D} {x y d : D} {k : Bool} {kd : List (D × D)} {t : Bool} {ns : List Int}
theorem x_addi (h : P (.dat (.int (i + j)))) : wAdd (.int i) (.int j) P := h
theorem x_adds (k : a.length + b.length ≤ 16777216) (h : P (.dat (.str (a ++ b)))) : wAdd (.str a) (.str b) P := ⟨k, h⟩
theorem x_addl (k : l.length + m.length ≤ 16777216) (h : P (.own (.lst (l ++ m)))) : wAdd (.lst l) (.lst m) P := ⟨k, h⟩
theorem x_addt (k : l.length + m.length ≤ 16777216) (h : P (.dat (.tup (l ++ m)))) : wAdd (.tup l) (.tup m) P := ⟨k, h⟩
theorem x_subi (h : P (.dat (.int (i - j)))) : wSub (.int i) (.int j) P := h
theorem x_muli (k : MulOk i j) (h : P (.dat (.int (i * j)))) : wMulG (.int i) (.int j) P := ⟨k, h⟩
theorem x_mull (k : -(2 ^ 63) ≤ j ∧ j < 2 ^ 63 ∧ l.length * j.toNat ≤ 16777216) (h : P (.own (.lst (List.replicate j.toNat l).flatten))) : wMulG (.lst l) (.int j) P := ⟨k, h⟩
theorem x_muls (k : j < 1000000 ∧ -1000000 < j ∧ a.length ≤ 16) (h : P (.dat (.str (List.replicate j.toNat a).flatten))) : wMulG (.str a) (.int j) P := ⟨k, h⟩
theorem x_modi (k : 0 < j) (h : P (.dat (.int (i % j)))) : wMod (.int i) (.int j) P := ⟨k, h⟩
theorem x_fdiv (k : 0 < j ∧ j.natAbs < 2 ^ 2000) (h : P (.dat (.int (i / j)))) : wFdiv (.int i) (.int j) P := ⟨k, h⟩
theorem x_powi (k : 0 ≤ j ∧ j ≤ 1000000 ∧ i.natAbs < 2 ^ 64) (h : P (.dat (.int (i ^ j.toNat)))) : wPow (.int i) (.int j) P := ⟨k, h⟩
theorem x_shli (k : 0 ≤ j ∧ j ≤ 1000000 ∧ i.natAbs < 2 ^ 64) (h : P (.dat (.int (i * 2 ^ j.toNat)))) : wShl (.int i) (.int j) P := ⟨k, h⟩
theorem x_bandi (h : P (.dat (.int (Builtin.bitAnd i j)))) : wBand (.int i) (.int j) P := h
theorem x_negi (h : P (.dat (.int (-i)))) : wNeg (.int i) P := h
theorem x_eqi (h : P (.dat (.bl (decide (i = j))))) : wEq (.int i) (.int j) P := ⟨.inr ⟨rfl, rfl⟩, by rw [eqD_int]; exact h⟩
theorem x_eqs (h : P (.dat (.bl (decide (a = b))))) : wEq (.str a) (.str b) P := ⟨.inl ⟨_, _, rfl, rfl⟩, by rw [eqD_str]; exact h⟩
theorem x_eq (o1 : okD x = true) (o2 : okD y = true) (h : P (.dat (.bl (eqD x y)))) : wEq x y P := ⟨.inr ⟨o1, o2⟩, h⟩
theorem x_nei (h : P (.dat (.bl (!decide (i = j))))) : wNe (.int i) (.int j) P := ⟨.inr ⟨rfl, rfl⟩, by rw [eqD_int]; exact h⟩
theorem x_nes (h : P (.dat (.bl (!decide (a = b))))) : wNe (.str a) (.str b) P := ⟨.inl ⟨_, _, rfl, rfl⟩, by rw [eqD_str]; exact h⟩
theorem x_ne (o1 : okD x = true) (o2 : okD y = true) (h : P (.dat (.bl (!eqD x y)))) : wNe x y P := ⟨.inr ⟨o1, o2⟩, h⟩
theorem x_lti (h : P (.dat (.bl (decide (i < j))))) : wLt (.int i) (.int j) P := h
theorem x_gti (h : P (.dat (.bl (decide (j < i))))) : wGt (.int i) (.int j) P := h
theorem x_lei (h : P (.dat (.bl (decide (i ≤ j))))) : wLe (.int i) (.int j) P := h
theorem x_gei (h : P (.dat (.bl (decide (j ≤ i))))) : wGe (.int i) (.int j) P := h
theorem x_ltt (k : cmpOk (.tup l) (.tup m)) (h : P (.dat (.bl (ltD (.tup l) (.tup m))))) : wLt (.tup l) (.tup m) P := ⟨k, h⟩
theorem x_gtt (k : cmpOk (.tup l) (.tup m)) (h : P (.dat (.bl (ltD (.tup m) (.tup l))))) : wGt (.tup l) (.tup m) P := ⟨k, h⟩
theorem x_lts (k : okS a) (k2 : okS b) (h : P (.dat (.bl (ltD (.str a) (.str b))))) : wLt (.str a) (.str b) P := ⟨⟨okD_str k, okD_str k2, rfl, rfl⟩, h⟩
theorem x_gts (k : okS a) (k2 : okS b) (h : P (.dat (.bl (ltD (.str b) (.str a))))) : wGt (.str a) (.str b) P := ⟨⟨okD_str k, okD_str k2, rfl, rfl⟩, h⟩
theorem x_isNn (h : P (.dat (.bl true))) : wIsN .non .non P := ⟨rfl, h⟩
theorem x_isNi (h : P (.dat (.bl false))) : wIsN (.int i) .non P := ⟨rfl, h⟩
theorem x_isNs (h : P (.dat (.bl false))) : wIsN (.str a) .non P := ⟨rfl, h⟩
theorem x_isNt (h : P (.dat (.bl false))) : wIsN (.tup l) .non P := ⟨rfl, h⟩
theorem x_isNl (h : P (.dat (.bl false))) : wIsN (.lst l) .non P := ⟨rfl, h⟩
theorem x_isNb (h : P (.dat (.bl false))) : wIsN (.bl k) .non P := ⟨rfl, h⟩
theorem x_isNd (h : P (.dat (.bl false))) : wIsN (.dct t kd) .non P := ⟨rfl, h⟩
theorem x_isN (h : P (.dat (.bl (isNon x)))) : wIsN x .non P := ⟨rfl, h⟩
theorem x_notNn (h : P (.dat (.bl false))) : wNotN .non .non P := ⟨rfl, h⟩
theorem x_notNi (h : P (.dat (.bl true))) : wNotN (.int i) .non P := ⟨rfl, h⟩
theorem x_notNs (h : P (.dat (.bl true))) : wNotN (.str a) .non P := ⟨rfl, h⟩
theorem x_notNt (h : P (.dat (.bl true))) : wNotN (.tup l) .non P := ⟨rfl, h⟩
theorem x_notNl (h : P (.dat (.bl true))) : wNotN (.lst l) .non P := ⟨rfl, h⟩
theorem x_notN (h : P (.dat (.bl (!isNon x)))) : wNotN x .non P := ⟨rfl, h⟩
theorem x_isB {k2 : Bool} (h : P (.dat (.bl (k == k2)))) : wIsB (.bl k) (.bl k2) P := ⟨rfl, h⟩
theorem x_notB {k2 : Bool} (h : P (.dat (.bl (!(k == k2))))) : wNotB (.bl k) (.bl k2) P := ⟨rfl, h⟩
theorem x_inl (o1 : (flatD x = true ∧ l.all flatD = true) ∨ (okD x = true ∧ okD (.lst l) = true)) (h : P (.dat (.bl (anyD x l)))) : wIn x (.lst l) P := ⟨o1, h⟩
theorem x_ninl (o1 : (flatD x = true ∧ l.all flatD = true) ∨ (okD x = true ∧ okD (.lst l) = true)) (h : P (.dat (.bl (!anyD x l)))) : wNin x (.lst l) P := ⟨o1, h⟩
theorem x_int_ (o1 : flatD x = true) (o2 : l.all flatD = true) (h : P (.dat (.bl (anyD x l)))) : wIn x (.tup l) P := ⟨⟨o1, o2⟩, h⟩
theorem x_nint (o1 : flatD x = true) (o2 : l.all flatD = true) (h : P (.dat (.bl (!anyD x l)))) : wNin x (.tup l) P := ⟨⟨o1, o2⟩, h⟩
theorem x_ind (o1 : keyOk t x = true) (h : P (.dat (.bl (lookD kd x).isSome))) : wIn x (.dct t kd) P := ⟨by cases x <;> first | exact o1 | (cases t <;> exact o1), by cases x <;> exact h⟩
theorem x_nind (o1 : keyOk t x = true) (h : P (.dat (.bl (!(lookD kd x).isSome)))) : wNin x (.dct t kd) P := ⟨by cases x <;> first | exact o1 | (cases t <;> exact o1), by cases x <;> exact h⟩
theorem x_ins {c : Nat} (h : P (.dat (.bl (decide (c ∈ a))))) : wIn (.str [c]) (.str a) P := ⟨trivial, h⟩
theorem x_nins {c : Nat} (h : P (.dat (.bl (!decide (c ∈ a))))) : wNin (.str [c]) (.str a) P := ⟨trivial, h⟩
theorem x_ixl (k : atI l i = some d) (h : P (.dat d)) : wIx (.lst l) (.int i) P := ⟨trivial, d, k, h⟩
theorem x_ixt (k : atI l i = some d) (h : P (.dat d)) : wIx (.tup l) (.int i) P := ⟨trivial, d, k, h⟩
theorem x_ixs {c : Nat} (ko : a.length ≤ 16777216) (k : atI a i = some c) (h : P (.dat (.str [c]))) : wIx (.str a) (.int i) P := ⟨ko, .str [c], by show (atI a i).map _ = _; rw [k]; rfl, h⟩
theorem x_ixc {n : Int} (k : atI ns i = some n) (h : P (.dat (.int n))) : wIx (.scr ns) (.int i) P := ⟨trivial, .int n, by show (atI ns i).map _ = _; rw [k]; rfl, h⟩
theorem x_ixd (o1 : keyOk t x = true) (k : lookD kd x = some d) (h : P (.dat d)) : wIx (.dct t kd) x P := ⟨trivial, d, by show (if _ then _ else _) = _; rw [if_pos o1, k], h⟩
theorem x_lenl (h : P (.dat (.int l.length))) : wLen (.lst l) P := h
theorem x_lent (h : P (.dat (.int l.length))) : wLen (.tup l) P := h
theorem x_lens (k : a.length ≤ 16777216) (h : P (.dat (.int a.length))) : wLen (.str a) P := ⟨k, h⟩
theorem x_lend (h : P (.dat (.int kd.length))) : wLen (.dct t kd) P := h
theorem x_lenc (h : P (.dat (.int ns.length))) : wLen (.scr ns) P := h
theorem x_inti (h : P (.dat (.int i))) : wInt (.int i) P := h
theorem x_intb (h : P (.dat (.int (if k = true then 1 else 0)))) : wInt (.bl k) P := h
theorem x_max2 (h : P (.dat (.int (max i j)))) : wMax2 (.int i) (.int j) P := h
theorem x_min2 (h : P (.dat (.int (min i j)))) : wMin2 (.int i) (.int j) P := h
theorem x_sum (ns : List Int) (e : l = ns.map .int) (h : P (.dat (.int ns.sum))) : wSum (.lst l) P := ⟨ns, e, h⟩
theorem x_all (bs : List Bool) (e : l = bs.map .bl) (h : P (.dat (.bl (bs.all id)))) : wAll (.lst l) P := ⟨bs, e, h⟩
theorem x_any (bs : List Bool) (e : l = bs.map .bl) (h : P (.dat (.bl (bs.any id)))) : wAny (.lst l) P := ⟨bs, e, h⟩
theorem x_listl (h : P (.own (.lst l))) : wList (.lst l) P := h
theorem x_listt (h : P (.own (.lst l))) : wList (.tup l) P := h
theorem x_tuplel (h : P (.dat (.tup l))) : wTuple (.lst l) P := h
theorem x_tuplet (h : P (.dat (.tup l))) : wTuple (.tup l) P := h
theorem x_sorted (k : sortOk l) (h : P (.own (.lst (l.mergeSort leD)))) : wSorted (.lst l) P := ⟨k, h⟩
theorem x_rev (h : P (.own (.lst l.reverse))) : wRev (.lst l) P := h
theorem x_isi {n : String} (h : P (.dat (.bl (isiD n x)))) : wIsi n x P := h
-- slices
variable {E : En} {Q : B → En → Prop} {wo : WO} {lo hi : WP} {w : WE} {QP : Option Int → En → Prop} {o : Opn} {p q : Option Int}
def slK (o : Opn) (p q : Option Int) (E : En) (Q : B → En → Prop) : Prop := match o.get E with
  | some d => wSl d p q fun b => Q b E
  | _ => False
theorem x_slice (h : wo E fun o E1 => lo E1 fun p E2 => hi E2 fun q E3 => slK o p q E3 Q) : wSlice wo lo hi E Q := h
theorem x_slK (g : GetR E o x) (h : wSl x p q fun b => Q b E) : slK o p q E Q := by unfold slK; rw [g.eq]; exact h
def psK (b : B) (E : En) (Q : Option Int → En → Prop) : Prop := match b with
  | .dat (.int i) => Q (some i) E
  | _ => False
theorem x_pN (h : QP none E) : pN E QP := h
theorem x_pS (h : w E fun b E1 => psK b E1 QP) : pS w E QP := h
theorem x_psK (h : QP (some i) E) : psK (.dat (.int i)) E QP := h
theorem x_sll (h : P (.own (.lst (cut l p q)))) : wSl (.lst l) p q P := h
theorem x_slt (h : P (.dat (.tup (cut l p q)))) : wSl (.tup l) p q P := h
theorem x_sls (k : a.length ≤ 16777216) (h : P (.dat (.str (cut a p q)))) : wSl (.str a) p q P := ⟨k, h⟩
-- methods
variable {wr : D → D → (B → Prop) → Prop} {w1 : D → (B → Prop) → Prop} {T : String} {oa : WO}
def m1K (T : String) (wr : D → D → (B → Prop) → Prop) (wa : WO) (o : Opn) (E1 : En) (Q : B → En → Prop) : Prop := tyO T (o.get E1) ∧ wa E1 fun a E2 => opK wr o a E2 Q
def m0K (T : String) (w1 : D → (B → Prop) → Prop) (o : Opn) (E1 : En) (Q : B → En → Prop) : Prop := tyO T (o.get E1) ∧ unK w1 o E1 Q
theorem x_mt1 (h : wo E fun o E1 => m1K T wr oa o E1 Q) : wMt1 T wr wo oa E Q := h
theorem x_mt0 (h : wo E fun o E1 => m0K T w1 o E1 Q) : wMt0 T w1 wo E Q := h
theorem x_m1K (g : GetR E o x) (t : tyO T (some x)) (h : oa E fun a E2 => opK wr o a E2 Q) : m1K T wr oa o E Q := ⟨by rw [g.eq]; exact t, h⟩
theorem x_m0K (g : GetR E o x) (t : tyO T (some x)) (h : w1 x fun b => Q b E) : m0K T w1 o E Q := ⟨by rw [g.eq]; exact t, by unfold unK; rw [g.eq]; exact h⟩
theorem x_indexL {j : Nat} (o1 : okD (.lst l) = true) (o2 : okD y = true) (k : idxOf l y = some j) (h : P (.dat (.int (j : Nat)))) : wIndexL (.lst l) y P := ⟨o1, o2, j, k, h⟩
variable {nx : En → Prop}
theorem x_setl {N : D → Prop} {v : D} {n : Nat} (k : ixN l.length i = some n) (h : N (.lst (l.set n v))) : setD (.lst l) (.int i) v N := ⟨n, k, h⟩
theorem x_setd {N : D → Prop} {v : D} (k : keyOk t x = true) (k2 : kd.length < 16777216) (h : N (.dct t (putD kd x v))) : setD (.dct t kd) x v N := ⟨k, k2, h⟩
end
/-! ### the start -/
inductive StaR : List B → Nat → En → Prop
  | z : StaR [] 0 []
  | n {n : Nat} {E : En} : StaR [] n E → StaR [] (n + 1) (none :: E)
  | c {n : Nat} {E : En} {b : B} {bs : List B} : StaR bs n E → StaR (b :: bs) (n + 1) (some b :: E)
theorem StaR.eq : ∀ {bs : List B} {n : Nat} {E : En}, StaR bs n E → sta n bs = E
  | _, _, _, .z => rfl
  | _, _, _, .n h => by rw [← h.eq]; simp [sta, List.replicate_succ]
  | _, _, _, .c h => by rw [← h.eq]; simp [sta]
theorem LF0 {n : Nat} {ws : WS} {Pp : B → Prop} {E : En} (s : StaR [] n E) (h : ws ⟨fun _ => Pp (.dat .non), fun b _ => Pp b, noE, noE⟩ E) : LF n ws [] Pp := by unfold LF; rw [show ([] : List D).map B.dat = [] from rfl, s.eq]; exact h
theorem LF1 {n : Nat} {ws : WS} {Pp : B → Prop} {E : En} {a : D} (s : StaR [.dat a] n E) (h : ws ⟨fun _ => Pp (.dat .non), fun b _ => Pp b, noE, noE⟩ E) : LF n ws [a] Pp := by
  unfold LF; show ws _ (sta n [.dat a]); rw [s.eq]; exact h
theorem LF2 {n : Nat} {ws : WS} {Pp : B → Prop} {E : En} {a b : D} (s : StaR [.dat a, .dat b] n E) (h : ws ⟨fun _ => Pp (.dat .non), fun b _ => Pp b, noE, noE⟩ E) : LF n ws [a, b] Pp := by
  unfold LF; show ws _ (sta n [.dat a, .dat b]); rw [s.eq]; exact h
theorem LF3 {n : Nat} {ws : WS} {Pp : B → Prop} {E : En} {a b c : D} (s : StaR [.dat a, .dat b, .dat c] n E) (h : ws ⟨fun _ => Pp (.dat .non), fun b _ => Pp b, noE, noE⟩ E) : LF n ws [a, b, c] Pp := by
  unfold LF; show ws _ (sta n [.dat a, .dat b, .dat c]); rw [s.eq]; exact h
theorem LF4 {n : Nat} {ws : WS} {Pp : B → Prop} {E : En} {a b c d : D} (s : StaR [.dat a, .dat b, .dat c, .dat d] n E) (h : ws ⟨fun _ => Pp (.dat .non), fun b _ => Pp b, noE, noE⟩ E) : LF n ws [a, b, c, d] Pp := by
  unfold LF; show ws _ (sta n [.dat a, .dat b, .dat c, .dat d]); rw [s.eq]; exact h
theorem LF5 {n : Nat} {ws : WS} {Pp : B → Prop} {E : En} {a b c d e : D} (s : StaR [.dat a, .dat b, .dat c, .dat d, .dat e] n E) (h : ws ⟨fun _ => Pp (.dat .non), fun b _ => Pp b, noE, noE⟩ E) : LF n ws [a, b, c, d, e] Pp := by
  unfold LF; show ws _ (sta n [.dat a, .dat b, .dat c, .dat d, .dat e]); rw [s.eq]; exact h
theorem LF6 {n : Nat} {ws : WS} {Pp : B → Prop} {E : En} {a b c d e f : D} (s : StaR [.dat a, .dat b, .dat c, .dat d, .dat e, .dat f] n E) (h : ws ⟨fun _ => Pp (.dat .non), fun b _ => Pp b, noE, noE⟩ E) : LF n ws [a, b, c, d, e, f] Pp := by
  unfold LF; show ws _ (sta n [.dat a, .dat b, .dat c, .dat d, .dat e, .dat f]); rw [s.eq]; exact h
section
variable {n : Nat} {ws : WS} {p : Addr} {d : D} {Pp : B → D → Prop} {E : En}
theorem LP0 (s : StaR [.par p d] n E) (h : ws ⟨endP p Pp (.dat .non), endP p Pp, noE, noE⟩ E) : LP n ws p d [] Pp := by
  unfold LP; show ws _ (sta n [.par p d]); rw [s.eq]; exact h
theorem LP1 {a : D} (s : StaR [.par p d, .dat a] n E) (h : ws ⟨endP p Pp (.dat .non), endP p Pp, noE, noE⟩ E) : LP n ws p d [a] Pp := by
  unfold LP; show ws _ (sta n [.par p d, .dat a]); rw [s.eq]; exact h
theorem LP2 {a b : D} (s : StaR [.par p d, .dat a, .dat b] n E) (h : ws ⟨endP p Pp (.dat .non), endP p Pp, noE, noE⟩ E) : LP n ws p d [a, b] Pp := by
  unfold LP; show ws _ (sta n [.par p d, .dat a, .dat b]); rw [s.eq]; exact h
theorem LP3 {a b c : D} (s : StaR [.par p d, .dat a, .dat b, .dat c] n E) (h : ws ⟨endP p Pp (.dat .non), endP p Pp, noE, noE⟩ E) : LP n ws p d [a, b, c] Pp := by
  unfold LP; show ws _ (sta n [.par p d, .dat a, .dat b, .dat c]); rw [s.eq]; exact h
end
theorem mul_r {i j : Int} (h : -(2 ^ 64) < j ∧ j < 2 ^ 64) : MulOk i j := .inr (.inl h)
theorem mul_l {i j : Int} (h : -(2 ^ 64) < i ∧ i < 2 ^ 64) : MulOk i j := .inl h
theorem mul_b {i j : Int} (h : i.natAbs < 2 ^ 2000) (h' : j.natAbs < 2 ^ 2000) : MulOk i j := .inr (.inr ⟨h, h'⟩)
theorem x_iteNT {A C : Prop} (h : C) : if (!true) = true then A else C := h
theorem x_iteNF {A C : Prop} (h : A) : if (!false) = true then A else C := h
/-! ### slices in plain words -/
theorem sIx_pos (n d : Nat) {i : Int} (h : 0 ≤ i) : HT.sIx n d (some i) = min i.toNat n := by
  show (if i < 0 then _ else _) = _
  rw [if_neg (by omega)]
theorem sIx_neg (n d : Nat) {i : Int} (h : i < 0) : HT.sIx n d (some i) = (i + (n : Int)).toNat := by
  show (if i < 0 then _ else _) = _
  rw [if_pos h]
theorem cut_from {α : Type} (l : List α) {i : Int} (h : 0 ≤ i) : cut l (some i) none = l.drop i.toNat := by
  unfold cut
  rw [sIx_pos _ _ h]
  show (l.drop _).take (l.length - _) = _
  rw [List.take_of_length_le (by rw [List.length_drop]; omega)]
  rcases Nat.le_total i.toNat l.length with g | g
  · rw [Nat.min_eq_left g]
  · rw [Nat.min_eq_right g, List.drop_of_length_le (Nat.le_refl _), List.drop_of_length_le g]
theorem cut_to {α : Type} (l : List α) {i : Int} (h : 0 ≤ i) : cut l none (some i) = l.take i.toNat := by
  unfold cut
  rw [sIx_pos _ _ h]
  show (l.drop 0).take (min _ _ - 0) = _
  rw [List.drop_zero, Nat.sub_zero]
  rcases Nat.le_total i.toNat l.length with g | g
  · rw [Nat.min_eq_left g]
  · rw [Nat.min_eq_right g, List.take_of_length_le (Nat.le_refl _), List.take_of_length_le g]
theorem cut_mid {α : Type} (l : List α) {i j : Int} (h : 0 ≤ i) (h' : 0 ≤ j) : cut l (some i) (some j) = (l.drop i.toNat).take (j.toNat - i.toNat) := by
  unfold cut
  rw [sIx_pos _ _ h, sIx_pos _ _ h']
  rcases Nat.le_total i.toNat l.length with g | g
  · rw [Nat.min_eq_left g]
    rcases Nat.le_total j.toNat l.length with g' | g'
    · rw [Nat.min_eq_left g']
    · rw [Nat.min_eq_right g', List.take_of_length_le (by rw [List.length_drop]; exact Nat.le_refl _), List.take_of_length_le (by rw [List.length_drop]; omega)]
  · rw [Nat.min_eq_right g, List.drop_of_length_le (Nat.le_refl _), List.drop_of_length_le g]; simp
theorem cut_last {α : Type} (l : List α) {k : Nat} (h : k ≤ l.length) (hk : 0 < k) : cut l (some (-(k : Int))) none = l.drop (l.length - k) := by
  unfold cut
  rw [sIx_neg _ _ (by omega)]
  show (l.drop _).take (l.length - _) = _
  have : (-(k : Int) + (l.length : Int)).toNat = l.length - k := by omega
  rw [this, List.take_of_length_le (by rw [List.length_drop]; exact Nat.le_refl _)]
end PW

set_option Elab.async false
set_option linter.all false
set_option autoImplicit false
set_option maxRecDepth 100000
set_option maxHeartbeats 4000000
set_option exponentiation.threshold 5000
namespace PW
open PySem PySem.Spec PyProof.Rows L2

/-! ### what the helpers promise -/
def f__law_mixed : D → D → (B → Prop) → Prop := fun a b P => (∃ i, a = .int i) ∧ (∃ j, b = .int j) ∧ ∀ v : Int, P (.dat (.int v))
def f__law_rest : D → D → D → (B → Prop) → Prop := fun a b c P => (∃ ns, a = .scr ns) ∧ (∃ j, b = .int j) ∧ (∃ i, c = .int i) ∧ ∀ v : Int, P (.dat (.int v))
def isPool (d : D) : Prop := ∃ (ns : List Int) (i v c : Int), d = .lst [.scr ns, .int i, .int v, .int c]
def f__law_pool : D → (B → Prop) → Prop := fun a P => (∃ ns, a = .scr ns) ∧ ∀ d, isPool d → P (.own d)
def f__law_next : D → (B → D → Prop) → Prop := fun d P => isPool d ∧ ∀ d', isPool d' → P (.dat .non) d'
def f__law_draw : D → D → (B → D → Prop) → Prop := fun d l P => isPool d ∧ ∃ n : Int, l = .int n ∧ 0 < n ∧ n < 2 ^ 1900 ∧ ∀ v d', 0 ≤ v → v < n → isPool d' → P (.dat (.int v)) d'
def f__law_pick : D → D → (B → D → Prop) → Prop := fun d o P => isPool d ∧ ∃ l : List D, o = .lst l ∧ l ≠ [] ∧ l.length ≤ 16777216 ∧ ∀ x d', x ∈ l → isPool d' → P (.dat x) d'
def SameN : Nat → D → D → Prop
  | 0, _, _ => False
  | n + 1, a, b => match a, b with
    | .dct t kd, .dct t' kd' => kd.length = kd'.length ∧ ∀ p ∈ kd, keyOk t p.1 = true ∧ keyOk t' p.1 = true ∧ ∃ v v', lookD kd p.1 = some v ∧ lookD kd' p.1 = some v' ∧ SameN n v v'
    | .lst l, .lst l' => l.length = l'.length ∧ l.length < 16777216 ∧ ∀ (i : Nat) (x y : D), l[i]? = some x → l'[i]? = some y → SameN n x y
    | .tup l, .tup l' => l.length = l'.length ∧ l.length < 16777216 ∧ ∀ (i : Nat) (x y : D), l[i]? = some x → l'[i]? = some y → SameN n x y
    | .non, .non => True
    | .bl x, .bl y => x = y
    | .int x, .int y => x = y
    | .str x, .str y => x = y
    | _, _ => False
def f__law_same (n : Nat) : D → D → (B → Prop) → Prop := fun a b P => SameN n a b ∧ P (.dat (.bl true))

/-! ### the plain reading run by instance search: to show goal it is enough to show res -/
class Ev (goal : Prop) (res : outParam Prop) : Prop where h : res → goal
theorem ev_ {g r : Prop} [e : Ev g r] (h : r) : g := e.h h
class AtC (E : En) (i : Nat) (b : outParam B) : Prop where h : AtR E i b
instance {b : B} {l : En} : AtC (some b :: l) 0 b := ⟨.z⟩
instance {b : B} {l : En} {x : Option B} {i : Nat} [h : AtC l i b] : AtC (x :: l) (i + 1) b := ⟨.s h.h⟩
class SetC (E : En) (i : Nat) (y : Option B) (E' : outParam En) : Prop where h : SetR E i y E'
instance {x y : Option B} {l : En} : SetC (x :: l) 0 y (y :: l) := ⟨.z⟩
instance {l l' : En} {i : Nat} {x y : Option B} [h : SetC l i y l'] : SetC (x :: l) (i + 1) y (x :: l') := ⟨.s h.h⟩
class DtC (b : B) (d : outParam D) : Prop where h : b.d = d
instance {d : D} : DtC (.dat d) d := ⟨rfl⟩
instance {d : D} : DtC (.own d) d := ⟨rfl⟩
instance {a : Addr} {d : D} : DtC (.par a d) d := ⟨rfl⟩
class GetC (E : En) (o : Opn) (d : outParam D) : Prop where h : o.get E = some d
instance {E : En} {d : D} : GetC E (.val d) d := ⟨rfl⟩
instance {E : En} {i : Nat} {b : B} {d : D} [a : AtC E i b] [c : DtC b d] : GetC E (.slot i) d := ⟨by simp only [Opn.get, a.h.eq]; rw [c.h]⟩
def truV (x : D) (E : En) (Q : Bool → En → Prop) : Prop := truOk x ∧ Q (truD x) E
/-- as sSeq, where ways meet -/
def sJ (a b : WS) : WS := sSeq a b
theorem truK_of {o : Opn} {x : D} {E : En} {Q : Bool → En → Prop} (g : o.get E = some x) (h : truV x E Q) : truK o E Q := by unfold truK; rw [g]; exact h
def subK3 (i : Nat) (b : B) (v k : D) (E : En) (nx : En → Prop) : Prop := b.mu = true ∧ setD b.d k v fun new => nx (E.set i (some (b.put new)))
theorem subK2_of {i : Nat} {v k bb : B} {x y : D} {E : En} {nx : En → Prop} (a : AtR E i bb) (d1 : k.d = x) (d2 : v.d = y) (h : subK3 i bb y x E nx) : subK2 i v k E nx := by unfold subK2; rw [a.eq, d1, d2]; exact h
theorem subK3_o {i : Nat} {z y x : D} {E : En} {nx : En → Prop} (h : setD z x y fun new => putK i (.own z) new E nx) : subK3 i (.own z) y x E nx := ⟨rfl, h⟩
theorem subK3_p {i : Nat} {p : Addr} {z y x : D} {E : En} {nx : En → Prop} (h : setD z x y fun new => putK i (.par p z) new E nx) : subK3 i (.par p z) y x E nx := ⟨rfl, h⟩
section
variable {E E' : En} {nx bk ct : En → Prop} {rt : B → En → Prop} {a b c : WS} {w wa wb we : WE} {i j : Nat} {Q : B → En → Prop} {QO : Opn → En → Prop} {QT : Bool → En → Prop} {QA : List D → En → Prop} {t u : WT}
  {oa ob : WO} {o o2 : Opn} {x y : D} {bb : B} {P : B → Prop} {A C : Prop} {r : WA} {wr : D → D → (B → Prop) → Prop} {w1 : D → (B → Prop) → Prop} {R : Prop}
instance (priority := 10) {p : Prop} : Ev p p := ⟨id⟩
theorem ev_ite {p : Prop} {_i : Decidable p} {RA RC : Prop} [a : Ev A RA] [c : Ev C RC] (h : p → RA) (h' : ¬ p → RC) : if decide p = true then A else C := x_iteD (fun q => a.h (h q)) fun q => c.h (h' q)
theorem ev_iteN {p : Prop} {_i : Decidable p} {RA RC : Prop} [a : Ev A RA] [c : Ev C RC] (h : ¬ p → RA) (h' : p → RC) : if (!decide p) = true then A else C := x_iteN (fun q => a.h (h q)) fun q => c.h (h' q)
theorem ev_iteB {k : Bool} {RA RC : Prop} [a : Ev A RA] [c : Ev C RC] (h : k = true → RA) (h' : k = false → RC) : if k = true then A else C := x_iteB (fun q => a.h (h q)) fun q => c.h (h' q)
theorem ev_iteM {k : Bool} {RA RC : Prop} [a : Ev A RA] [c : Ev C RC] (h : k = false → RA) (h' : k = true → RC) : if (!k) = true then A else C := x_iteM (fun q => a.h (h q)) fun q => c.h (h' q)
/-- ways that meet: M holds behind a -/
theorem x_join (M : En → Prop) (h1 : ∀ nx' : En → Prop, (∀ E', M E' → nx' E') → a ⟨nx', rt, bk, ct⟩ E) (h2 : ∀ E', M E' → b ⟨nx, rt, bk, ct⟩ E') : sJ a b ⟨nx, rt, bk, ct⟩ E := h1 _ h2
instance  [e : Ev (a ⟨b ⟨nx, rt, bk, ct⟩, rt, bk, ct⟩ E) R] : Ev (sSeq a b ⟨nx, rt, bk, ct⟩ E) (R) := ⟨fun h => x_seq (e.h h)⟩
instance  [e : Ev (w E fun bb E1 => setK i bb E1 nx) R] : Ev (sSet i w ⟨nx, rt, bk, ct⟩ E) (R) := ⟨fun h => x_set (e.h h)⟩
instance [s : SetC E i (some bb) E'] [e : Ev (nx E') R] : Ev (setK i bb E nx) (R) := ⟨fun h => x_setK s.h (e.h h)⟩
instance  [e : Ev (nx E) R] : Ev (sNext ⟨nx, rt, bk, ct⟩ E) (R) := ⟨fun h => x_next (e.h h)⟩
instance  [e : Ev (bk E) R] : Ev (sBreak ⟨nx, rt, bk, ct⟩ E) (R) := ⟨fun h => x_break (e.h h)⟩
instance  [e : Ev (ct E) R] : Ev (sCont ⟨nx, rt, bk, ct⟩ E) (R) := ⟨fun h => x_cont (e.h h)⟩
instance  [e : Ev (w E rt) R] : Ev (sRet w ⟨nx, rt, bk, ct⟩ E) (R) := ⟨fun h => x_ret (e.h h)⟩
instance  [e : Ev (rt (.dat .non) E) R] : Ev (sRetN ⟨nx, rt, bk, ct⟩ E) (R) := ⟨fun h => x_retN (e.h h)⟩
instance  [e : Ev (w E fun _ E1 => nx E1) R] : Ev (sExpr w ⟨nx, rt, bk, ct⟩ E) (R) := ⟨fun h => x_expr (e.h h)⟩
instance  [e : Ev (t E fun k E1 => if k = true then a ⟨nx, rt, bk, ct⟩ E1 else b ⟨nx, rt, bk, ct⟩ E1) R] : Ev (sIf t a b ⟨nx, rt, bk, ct⟩ E) (R) := ⟨fun h => x_if (e.h h)⟩
instance  [e : Ev (r E fun ds E1 => parK i j ds E1 nx) R] : Ev (sPar i j r ⟨nx, rt, bk, ct⟩ E) (R) := ⟨fun h => x_par (e.h h)⟩
instance {E'' : En} [s : SetC E i (some (.dat x)) E'] [s2 : SetC E' j (some (.dat y)) E''] [e : Ev (nx E'') R] : Ev (parK i j [x, y] E nx) (R) := ⟨fun h => x_parK s.h s2.h (e.h h)⟩
instance {l : Nat}  [e : Ev (r E fun ds E1 => par3K i j l ds E1 nx) R] : Ev (sPar3 i j l r ⟨nx, rt, bk, ct⟩ E) (R) := ⟨fun h => x_par3 (e.h h)⟩
instance {l : Nat} {z : D} {E'' E3 : En} [s : SetC E i (some (.dat x)) E'] [s2 : SetC E' j (some (.dat y)) E''] [s3 : SetC E'' l (some (.dat z)) E3] [e : Ev (nx E3) R] : Ev (par3K i j l [x, y, z] E nx) (R) := ⟨fun h => x_par3K s.h s2.h s3.h (e.h h)⟩
instance {g : WG}  [e : Ev (w E fun b E1 => asgK g b E1 nx) R] : Ev (sAsg w g ⟨nx, rt, bk, ct⟩ E) (R) := ⟨fun h => x_asg (e.h h)⟩
instance {g : WG} [d : DtC bb x] [e : Ev (g x E nx) R] : Ev (asgK g bb E nx) (R) := ⟨fun h => by unfold asgK; rw [d.h]; exact e.h h⟩
instance [s : SetC E i (some (.dat x)) E'] [e : Ev (nx E') R] : Ev (gN i x E nx) (R) := ⟨fun h => x_gN s.h (e.h h)⟩
instance {ws : WGs} {y0 : D}  [e : Ev (ws [y0] E nx) R] : Ev (gT 1 ws (.tup [y0]) E nx) (R) := ⟨fun h => x_gT rfl (e.h h)⟩
instance {ws : WGs} {y0 y1 : D}  [e : Ev (ws [y0, y1] E nx) R] : Ev (gT 2 ws (.tup [y0, y1]) E nx) (R) := ⟨fun h => x_gT rfl (e.h h)⟩
instance {ws : WGs} {y0 y1 y2 : D}  [e : Ev (ws [y0, y1, y2] E nx) R] : Ev (gT 3 ws (.tup [y0, y1, y2]) E nx) (R) := ⟨fun h => x_gT rfl (e.h h)⟩
instance {ws : WGs} {y0 y1 y2 y3 : D}  [e : Ev (ws [y0, y1, y2, y3] E nx) R] : Ev (gT 4 ws (.tup [y0, y1, y2, y3]) E nx) (R) := ⟨fun h => x_gT rfl (e.h h)⟩
instance {ws : WGs} {y0 y1 y2 y3 y4 : D}  [e : Ev (ws [y0, y1, y2, y3, y4] E nx) R] : Ev (gT 5 ws (.tup [y0, y1, y2, y3, y4]) E nx) (R) := ⟨fun h => x_gT rfl (e.h h)⟩
instance {ws : WGs} {y0 y1 y2 y3 y4 y5 : D}  [e : Ev (ws [y0, y1, y2, y3, y4, y5] E nx) R] : Ev (gT 6 ws (.tup [y0, y1, y2, y3, y4, y5]) E nx) (R) := ⟨fun h => x_gT rfl (e.h h)⟩
instance  [e : Ev (nx E) R] : Ev (gsN [] E nx) (R) := ⟨fun h => x_gsN (e.h h)⟩
instance {g : WG} {ws : WGs} {l : List D}  [e : Ev (g x E fun E1 => ws l E1 nx) R] : Ev (gsC g ws (x :: l) E nx) (R) := ⟨fun h => x_gsC (e.h h)⟩
instance {wi : WI} {g : WG}  [e : Ev (wi E fun ds E1 => forK g a ⟨nx, rt, bk, ct⟩ ds E1) R] : Ev (sFor wi g a ⟨nx, rt, bk, ct⟩ E) (R) := ⟨fun h => x_for (e.h h)⟩
instance  [e : Ev (we E fun v E1 => subK i wa v E1 nx) R] : Ev (sSub i wa we ⟨nx, rt, bk, ct⟩ E) (R) := ⟨fun h => x_sub (e.h h)⟩
instance {v : B} [at_ : AtC E i bb] [e : Ev (wa E fun k E2 => subK2 i v k E2 nx) R] : Ev (subK i wa v E nx) (R) := ⟨fun h => x_subK at_.h (e.h h)⟩
instance {v k : B} [at_ : AtC E i bb] [d1 : DtC k x] [d2 : DtC v y] [e : Ev (subK3 i bb y x E nx) R] : Ev (subK2 i v k E nx) (R) := ⟨fun h => subK2_of at_.h d1.h d2.h (e.h h)⟩
instance {z : D}  [e : Ev (setD z x y fun new => putK i (.own z) new E nx) R] : Ev (subK3 i (.own z) y x E nx) (R) := ⟨fun h => subK3_o (e.h h)⟩
instance {z : D} {p : Addr}  [e : Ev (setD z x y fun new => putK i (.par p z) new E nx) R] : Ev (subK3 i (.par p z) y x E nx) (R) := ⟨fun h => subK3_p (e.h h)⟩
instance {QE : En → Prop} [s : SetC E i (some (.own y)) E'] [e : Ev (QE E') R] : Ev (putK i (.own x) y E QE) (R) := ⟨fun h => x_putKo s.h (e.h h)⟩
instance {QE : En → Prop} {p : Addr} [s : SetC E i (some (.par p y)) E'] [e : Ev (QE E') R] : Ev (putK i (.par p x) y E QE) (R) := ⟨fun h => x_putKp s.h (e.h h)⟩
instance {p : Addr} {l : En} {PP : B → D → Prop}  [e : Ev (PP bb x) R] : Ev (endP p PP bb (some (.par p x) :: l)) (R) := ⟨fun h => x_end (e.h h)⟩
instance {tt : Bool} {kd : List (D × D)} {N : D → Prop}  [e : Ev (N (.dct tt (putD kd x y))) R] : Ev (setD (.dct tt kd) x y N) (keyOk tt x = true ∧ kd.length < 16777216 ∧ R) := ⟨fun h => x_setd h.1 h.2.1 (e.h h.2.2)⟩
instance  [e : Ev (A) R] : Ev (if true = true then A else C) (R) := ⟨fun h => x_iteT (e.h h)⟩
instance  [e : Ev (C) R] : Ev (if false = true then A else C) (R) := ⟨fun h => x_iteF (e.h h)⟩
instance  [e : Ev (C) R] : Ev (if (!true) = true then A else C) (R) := ⟨fun h => x_iteNT (e.h h)⟩
instance  [e : Ev (A) R] : Ev (if (!false) = true then A else C) (R) := ⟨fun h => x_iteNF (e.h h)⟩
instance  [e : Ev (A) R] : Ev (if (true == true) = true then A else C) (R) := ⟨fun h => e.h h⟩
instance  [e : Ev (C) R] : Ev (if (false == true) = true then A else C) (R) := ⟨fun h => e.h h⟩
instance  [e : Ev (C) R] : Ev (if (!(true == true)) = true then A else C) (R) := ⟨fun h => e.h h⟩
instance  [e : Ev (A) R] : Ev (if (!(false == true)) = true then A else C) (R) := ⟨fun h => e.h h⟩
instance  [e : Ev (C) R] : Ev (if (true == false) = true then A else C) (R) := ⟨fun h => e.h h⟩
instance  [e : Ev (A) R] : Ev (if (false == false) = true then A else C) (R) := ⟨fun h => e.h h⟩
instance  [e : Ev (A) R] : Ev (if (!(true == false)) = true then A else C) (R) := ⟨fun h => e.h h⟩
instance  [e : Ev (C) R] : Ev (if (!(false == false)) = true then A else C) (R) := ⟨fun h => e.h h⟩
instance  [e : Ev (w E fun b E1 => tstK b E1 QT) R] : Ev (wTst w E QT) (R) := ⟨fun h => x_tst (e.h h)⟩
instance {k : Bool}  [e : Ev (QT k E) R] : Ev (tstK (.dat (.bl k)) E QT) (R) := ⟨fun h => x_tstK (e.h h)⟩
instance  [e : Ev (t E fun k E1 => if k = true then u E1 QT else QT false E1) R] : Ev (wAnd t u E QT) (R) := ⟨fun h => x_and (e.h h)⟩
instance  [e : Ev (t E fun k E1 => if k = true then QT true E1 else u E1 QT) R] : Ev (wOr t u E QT) (R) := ⟨fun h => x_or (e.h h)⟩
instance  [e : Ev (t E fun k E1 => QT (!k) E1) R] : Ev (wNot t E QT) (R) := ⟨fun h => x_not (e.h h)⟩
instance  [e : Ev (oa E fun o E1 => truK o E1 QT) R] : Ev (wTru oa E QT) (R) := ⟨fun h => x_tru (e.h h)⟩
instance [g : GetC E o x] [e : Ev (truV x E QT) R] : Ev (truK o E QT) (R) := ⟨fun h => truK_of g.h (e.h h)⟩
instance {l : List D}  [e : Ev (QT (!l.isEmpty) E) R] : Ev (truV (.lst l) E QT) (R) := ⟨fun h => ⟨trivial, e.h h⟩⟩
instance {l : List D}  [e : Ev (QT (!l.isEmpty) E) R] : Ev (truV (.tup l) E QT) (R) := ⟨fun h => ⟨trivial, e.h h⟩⟩
instance {k : Bool}  [e : Ev (QT k E) R] : Ev (truV (.bl k) E QT) (R) := ⟨fun h => ⟨trivial, e.h h⟩⟩
instance  [e : Ev (QT false E) R] : Ev (truV .non E QT) (R) := ⟨fun h => ⟨trivial, e.h h⟩⟩
instance {n : Int}  [e : Ev (QT (n != 0) E) R] : Ev (truV (.int n) E QT) (R) := ⟨fun h => ⟨trivial, e.h h⟩⟩
instance {s : List Nat}  [e : Ev (QT ((s.length : Int) != 0) E) R] : Ev (truV (.str s) E QT) (s.length ≤ 16777216 ∧ R) := ⟨fun h => ⟨h.1, e.h h.2⟩⟩
instance  [e : Ev (Q (.dat x) E) R] : Ev (wC x E Q) (R) := ⟨fun h => x_C (e.h h)⟩
class EvV (i : Nat) (b : B) (E : En) (Q : B → En → Prop) (res : outParam Prop) : Prop where h : AtR E i b → res → wV i E Q
class EvM (i : Nat) (b : B) (E : En) (Q : B → En → Prop) (res : outParam Prop) : Prop where h : AtR E i b → res → wM i E Q
class EvO (i : Nat) (b : B) (E : En) (QO : Opn → En → Prop) (res : outParam Prop) : Prop where h : AtR E i b → res → oV i E QO
instance [e : Ev (Q (.dat x) E) R] : EvV i (.dat x) E Q R := ⟨fun a h => x_Vd a (e.h h)⟩
instance [s : SetC E i (some (.dat x)) E'] [e : Ev (Q (.dat x) E') R] : EvV i (.own x) E Q R := ⟨fun a h => x_Vo a s.h (e.h h)⟩
instance [e : Ev (Q (.dat x) E) R] : EvM i (.dat x) E Q R := ⟨fun a h => x_Md a (e.h h)⟩
instance [s : SetC E i none E'] [e : Ev (Q (.own x) E') R] : EvM i (.own x) E Q R := ⟨fun a h => x_Mo a s.h (e.h h)⟩
instance [e : Ev (QO (.val x) E) R] : EvO i (.dat x) E QO R := ⟨fun a h => x_oVd a (e.h h)⟩
instance [e : Ev (QO (.slot i) E) R] : EvO i (.own x) E QO R := ⟨fun a h => x_oVo a (e.h h)⟩
instance {p : Addr} [e : Ev (QO (.slot i) E) R] : EvO i (.par p x) E QO R := ⟨fun a h => x_oVp a (e.h h)⟩
instance [a : AtC E i bb] [e : EvV i bb E Q R] : Ev (wV i E Q) R := ⟨fun h => e.h a.h h⟩
instance [a : AtC E i bb] [e : EvM i bb E Q R] : Ev (wM i E Q) R := ⟨fun h => e.h a.h h⟩
instance [a : AtC E i bb] [e : EvO i bb E QO R] : Ev (oV i E QO) R := ⟨fun h => e.h a.h h⟩
instance  [e : Ev (w E fun b E1 => valK b E1 QO) R] : Ev (oE w E QO) (R) := ⟨fun h => x_oE (e.h h)⟩
instance [d : DtC bb x] [e : Ev (QO (.val x) E) R] : Ev (valK bb E QO) (R) := ⟨fun h => by unfold valK; rw [d.h]; exact e.h h⟩
instance  [e : Ev (oa E fun o E1 => ob E1 fun o2 E2 => opK wr o o2 E2 Q) R] : Ev (wOp wr oa ob E Q) (R) := ⟨fun h => x_op (e.h h)⟩
instance [g : GetC E o x] [g2 : GetC E o2 y] [e : Ev (wr x y fun b => Q b E) R] : Ev (opK wr o o2 E Q) (R) := ⟨fun h => by unfold opK; rw [g.h, g2.h]; exact e.h h⟩
instance  [e : Ev (oa E fun o E1 => unK w1 o E1 Q) R] : Ev (wUn w1 oa E Q) (R) := ⟨fun h => x_un (e.h h)⟩
instance [g : GetC E o x] [e : Ev (w1 x fun b => Q b E) R] : Ev (unK w1 o E Q) (R) := ⟨fun h => by unfold unK; rw [g.h]; exact e.h h⟩
instance  [e : Ev (t E fun k E1 => if k = true then wa E1 Q else wb E1 Q) R] : Ev (wIf t wa wb E Q) (R) := ⟨fun h => x_ifE (e.h h)⟩
instance  [e : Ev (wa E fun b E1 => andK wb b E1 Q) R] : Ev (wAndV wa wb E Q) (R) := ⟨fun h => x_andV (e.h h)⟩
instance  [e : Ev (wa E fun b E1 => orK wb b E1 Q) R] : Ev (wOrV wa wb E Q) (R) := ⟨fun h => x_orV (e.h h)⟩
instance  [e : Ev (wa E fun b E1 => notK b E1 Q) R] : Ev (wNotV wa E Q) (R) := ⟨fun h => x_notV (e.h h)⟩
instance {k : Bool}  [e : Ev (if k = true then we E Q else Q (.dat (.bl false)) E) R] : Ev (andK we (.dat (.bl k)) E Q) (R) := ⟨fun h => x_andK (e.h h)⟩
instance {k : Bool}  [e : Ev (if k = true then Q (.dat (.bl true)) E else we E Q) R] : Ev (orK we (.dat (.bl k)) E Q) (R) := ⟨fun h => x_orK (e.h h)⟩
instance {k : Bool}  [e : Ev (Q (.dat (.bl (!k))) E) R] : Ev (notK (.dat (.bl k)) E Q) (R) := ⟨fun h => x_notK (e.h h)⟩
instance  [e : Ev (QA [] E) R] : Ev (aN E QA) (R) := ⟨fun h => x_aN (e.h h)⟩
instance  [e : Ev (w E fun b E1 => acK b r E1 QA) R] : Ev (aC w r E QA) (R) := ⟨fun h => x_aC (e.h h)⟩
instance [d : DtC bb x] [e : Ev (r E fun ds E2 => QA (x :: ds) E2) R] : Ev (acK bb r E QA) (R) := ⟨fun h => by unfold acK; rw [d.h]; exact e.h h⟩
instance  [e : Ev (r E fun ds E1 => tupK ds E1 Q) R] : Ev (wTup r E Q) (R) := ⟨fun h => x_tup (e.h h)⟩
instance  [e : Ev (r E fun ds E1 => lstK ds E1 Q) R] : Ev (wLst r E Q) (R) := ⟨fun h => x_lst (e.h h)⟩
instance  [e : Ev (Q (.dat (.tup [])) E) R] : Ev (tupK [] E Q) (R) := ⟨fun h => x_tupK (by show _ ≤ _; exact Nat.le_of_ble_eq_true rfl) (e.h h)⟩
instance  [e : Ev (Q (.own (.lst [])) E) R] : Ev (lstK [] E Q) (R) := ⟨fun h => x_lstK (by show _ ≤ _; exact Nat.le_of_ble_eq_true rfl) (e.h h)⟩
instance {y0 : D}  [e : Ev (Q (.dat (.tup [y0])) E) R] : Ev (tupK [y0] E Q) (R) := ⟨fun h => x_tupK (by show _ ≤ _; exact Nat.le_of_ble_eq_true rfl) (e.h h)⟩
instance {y0 : D}  [e : Ev (Q (.own (.lst [y0])) E) R] : Ev (lstK [y0] E Q) (R) := ⟨fun h => x_lstK (by show _ ≤ _; exact Nat.le_of_ble_eq_true rfl) (e.h h)⟩
instance {y0 y1 : D}  [e : Ev (Q (.dat (.tup [y0, y1])) E) R] : Ev (tupK [y0, y1] E Q) (R) := ⟨fun h => x_tupK (by show _ ≤ _; exact Nat.le_of_ble_eq_true rfl) (e.h h)⟩
instance {y0 y1 : D}  [e : Ev (Q (.own (.lst [y0, y1])) E) R] : Ev (lstK [y0, y1] E Q) (R) := ⟨fun h => x_lstK (by show _ ≤ _; exact Nat.le_of_ble_eq_true rfl) (e.h h)⟩
instance {y0 y1 y2 : D}  [e : Ev (Q (.dat (.tup [y0, y1, y2])) E) R] : Ev (tupK [y0, y1, y2] E Q) (R) := ⟨fun h => x_tupK (by show _ ≤ _; exact Nat.le_of_ble_eq_true rfl) (e.h h)⟩
instance {y0 y1 y2 : D}  [e : Ev (Q (.own (.lst [y0, y1, y2])) E) R] : Ev (lstK [y0, y1, y2] E Q) (R) := ⟨fun h => x_lstK (by show _ ≤ _; exact Nat.le_of_ble_eq_true rfl) (e.h h)⟩
instance {y0 y1 y2 y3 : D}  [e : Ev (Q (.dat (.tup [y0, y1, y2, y3])) E) R] : Ev (tupK [y0, y1, y2, y3] E Q) (R) := ⟨fun h => x_tupK (by show _ ≤ _; exact Nat.le_of_ble_eq_true rfl) (e.h h)⟩
instance {y0 y1 y2 y3 : D}  [e : Ev (Q (.own (.lst [y0, y1, y2, y3])) E) R] : Ev (lstK [y0, y1, y2, y3] E Q) (R) := ⟨fun h => x_lstK (by show _ ≤ _; exact Nat.le_of_ble_eq_true rfl) (e.h h)⟩
instance {y0 y1 y2 y3 y4 : D}  [e : Ev (Q (.dat (.tup [y0, y1, y2, y3, y4])) E) R] : Ev (tupK [y0, y1, y2, y3, y4] E Q) (R) := ⟨fun h => x_tupK (by show _ ≤ _; exact Nat.le_of_ble_eq_true rfl) (e.h h)⟩
instance {y0 y1 y2 y3 y4 : D}  [e : Ev (Q (.own (.lst [y0, y1, y2, y3, y4])) E) R] : Ev (lstK [y0, y1, y2, y3, y4] E Q) (R) := ⟨fun h => x_lstK (by show _ ≤ _; exact Nat.le_of_ble_eq_true rfl) (e.h h)⟩
instance {y0 y1 y2 y3 y4 y5 : D}  [e : Ev (Q (.dat (.tup [y0, y1, y2, y3, y4, y5])) E) R] : Ev (tupK [y0, y1, y2, y3, y4, y5] E Q) (R) := ⟨fun h => x_tupK (by show _ ≤ _; exact Nat.le_of_ble_eq_true rfl) (e.h h)⟩
instance {y0 y1 y2 y3 y4 y5 : D}  [e : Ev (Q (.own (.lst [y0, y1, y2, y3, y4, y5])) E) R] : Ev (lstK [y0, y1, y2, y3, y4, y5] E Q) (R) := ⟨fun h => x_lstK (by show _ ≤ _; exact Nat.le_of_ble_eq_true rfl) (e.h h)⟩
instance {y0 y1 y2 y3 y4 y5 y6 : D}  [e : Ev (Q (.dat (.tup [y0, y1, y2, y3, y4, y5, y6])) E) R] : Ev (tupK [y0, y1, y2, y3, y4, y5, y6] E Q) (R) := ⟨fun h => x_tupK (by show _ ≤ _; exact Nat.le_of_ble_eq_true rfl) (e.h h)⟩
instance {y0 y1 y2 y3 y4 y5 y6 : D}  [e : Ev (Q (.own (.lst [y0, y1, y2, y3, y4, y5, y6])) E) R] : Ev (lstK [y0, y1, y2, y3, y4, y5, y6] E Q) (R) := ⟨fun h => x_lstK (by show _ ≤ _; exact Nat.le_of_ble_eq_true rfl) (e.h h)⟩
instance {y0 y1 y2 y3 y4 y5 y6 y7 : D}  [e : Ev (Q (.dat (.tup [y0, y1, y2, y3, y4, y5, y6, y7])) E) R] : Ev (tupK [y0, y1, y2, y3, y4, y5, y6, y7] E Q) (R) := ⟨fun h => x_tupK (by show _ ≤ _; exact Nat.le_of_ble_eq_true rfl) (e.h h)⟩
instance {y0 y1 y2 y3 y4 y5 y6 y7 : D}  [e : Ev (Q (.own (.lst [y0, y1, y2, y3, y4, y5, y6, y7])) E) R] : Ev (lstK [y0, y1, y2, y3, y4, y5, y6, y7] E Q) (R) := ⟨fun h => x_lstK (by show _ ≤ _; exact Nat.le_of_ble_eq_true rfl) (e.h h)⟩
instance {y0 y1 y2 y3 y4 y5 y6 y7 y8 : D}  [e : Ev (Q (.dat (.tup [y0, y1, y2, y3, y4, y5, y6, y7, y8])) E) R] : Ev (tupK [y0, y1, y2, y3, y4, y5, y6, y7, y8] E Q) (R) := ⟨fun h => x_tupK (by show _ ≤ _; exact Nat.le_of_ble_eq_true rfl) (e.h h)⟩
instance {y0 y1 y2 y3 y4 y5 y6 y7 y8 : D}  [e : Ev (Q (.own (.lst [y0, y1, y2, y3, y4, y5, y6, y7, y8])) E) R] : Ev (lstK [y0, y1, y2, y3, y4, y5, y6, y7, y8] E Q) (R) := ⟨fun h => x_lstK (by show _ ≤ _; exact Nat.le_of_ble_eq_true rfl) (e.h h)⟩
instance {fs : FS}  [e : Ev (r E fun ds E1 => fs ds fun b => Q b E1) R] : Ev (wCall fs r E Q) (R) := ⟨fun h => x_call (e.h h)⟩
instance {f : (B → Prop) → Prop}  [e : Ev (f  P) R] : Ev (fs0 f [] P) (R) := ⟨fun h => x_fs0 (e.h h)⟩
instance {f : D → (B → Prop) → Prop} {d0 : D}  [e : Ev (f d0 P) R] : Ev (fs1 f [d0] P) (R) := ⟨fun h => x_fs1 (e.h h)⟩
instance {f : D → D → (B → Prop) → Prop} {d0 d1 : D}  [e : Ev (f d0 d1 P) R] : Ev (fs2 f [d0, d1] P) (R) := ⟨fun h => x_fs2 (e.h h)⟩
instance {f : D → D → D → (B → Prop) → Prop} {d0 d1 d2 : D}  [e : Ev (f d0 d1 d2 P) R] : Ev (fs3 f [d0, d1, d2] P) (R) := ⟨fun h => x_fs3 (e.h h)⟩
instance {f : D → D → D → D → (B → Prop) → Prop} {d0 d1 d2 d3 : D}  [e : Ev (f d0 d1 d2 d3 P) R] : Ev (fs4 f [d0, d1, d2, d3] P) (R) := ⟨fun h => x_fs4 (e.h h)⟩
instance {f : D → D → D → D → D → (B → Prop) → Prop} {d0 d1 d2 d3 d4 : D}  [e : Ev (f d0 d1 d2 d3 d4 P) R] : Ev (fs5 f [d0, d1, d2, d3, d4] P) (R) := ⟨fun h => x_fs5 (e.h h)⟩
instance {f : D → D → D → D → D → D → (B → Prop) → Prop} {d0 d1 d2 d3 d4 d5 : D}  [e : Ev (f d0 d1 d2 d3 d4 d5 P) R] : Ev (fs6 f [d0, d1, d2, d3, d4, d5] P) (R) := ⟨fun h => x_fs6 (e.h h)⟩
instance {fs : PFS} [a : AtC E i bb] [e : Ev (r E fun ds E1 => cpK i fs ds E1 Q) R] : Ev (wCallP i fs r E Q) (R) := ⟨fun h => x_callP a.h (e.h h)⟩
class EvC (i : Nat) (b : B) (fs : PFS) (ds : List D) (E : En) (Q : B → En → Prop) (res : outParam Prop) : Prop where h : AtR E i b → res → cpK i fs ds E Q
instance {fs : PFS} {ds : List D} [e : Ev (fs x ds fun c d' => putK i (.own x) d' E (Q c)) R] : EvC i (.own x) fs ds E Q R := ⟨fun a h => x_cpKo a (e.h h)⟩
instance {fs : PFS} {ds : List D} {p : Addr} [e : Ev (fs x ds fun c d' => putK i (.par p x) d' E (Q c)) R] : EvC i (.par p x) fs ds E Q R := ⟨fun a h => x_cpKp a (e.h h)⟩
instance {fs : PFS} {ds : List D} [a : AtC E i bb] [e : EvC i bb fs ds E Q R] : Ev (cpK i fs ds E Q) R := ⟨fun h => e.h a.h h⟩
instance {f : D → (B → D → Prop) → Prop} {PP : B → D → Prop}  [e : Ev (f x  PP) R] : Ev (ps0 f x [] PP) (R) := ⟨fun h => x_ps0 (e.h h)⟩
instance {f : D → D → (B → D → Prop) → Prop} {PP : B → D → Prop} {d0 : D}  [e : Ev (f x d0 PP) R] : Ev (ps1 f x [d0] PP) (R) := ⟨fun h => x_ps1 (e.h h)⟩
instance {f : D → D → D → (B → D → Prop) → Prop} {PP : B → D → Prop} {d0 d1 : D}  [e : Ev (f x d0 d1 PP) R] : Ev (ps2 f x [d0, d1] PP) (R) := ⟨fun h => x_ps2 (e.h h)⟩
instance {f : D → D → D → D → (B → D → Prop) → Prop} {PP : B → D → Prop} {d0 d1 d2 : D}  [e : Ev (f x d0 d1 d2 PP) R] : Ev (ps3 f x [d0, d1, d2] PP) (R) := ⟨fun h => x_ps3 (e.h h)⟩
instance {f : D → D → D → D → D → (B → D → Prop) → Prop} {PP : B → D → Prop} {d0 d1 d2 d3 : D}  [e : Ev (f x d0 d1 d2 d3 PP) R] : Ev (ps4 f x [d0, d1, d2, d3] PP) (R) := ⟨fun h => x_ps4 (e.h h)⟩
class EvT (T : String) (i : Nat) (b : B) (m : WM1) (we : WE) (E : En) (Q : B → En → Prop) (res : outParam Prop) : Prop where h : AtR E i b → res → wMut1 T i m we E Q
instance {l : List D} {m : WM1} [e : Ev (we E fun b E1 => mtK i m b E1 Q) R] : EvT "list" i (.own (.lst l)) m we E Q R := ⟨fun a h => x_mut1o a rfl (e.h h)⟩
instance {l : List D} {m : WM1} {p : Addr} [e : Ev (we E fun b E1 => mtK i m b E1 Q) R] : EvT "list" i (.par p (.lst l)) m we E Q R := ⟨fun a h => x_mut1p a rfl (e.h h)⟩
instance {T : String} {m : WM1} [a : AtC E i bb] [e : EvT T i bb m we E Q R] : Ev (wMut1 T i m we E Q) R := ⟨fun h => e.h a.h h⟩
class EvK (i : Nat) (b : B) (m : WM1) (y : D) (E : En) (Q : B → En → Prop) (res : outParam Prop) : Prop where h : AtR E i b → res → mtK i m (.dat y) E Q ∧ mtK i m (.own y) E Q
instance {m : WM1} [e : Ev (m x y fun res new => putK i (.own x) new E (Q (.dat res))) R] : EvK i (.own x) m y E Q R := ⟨fun a h => ⟨x_mtKod a (e.h h), x_mtKoo a (e.h h)⟩⟩
instance {m : WM1} {p : Addr} [e : Ev (m x y fun res new => putK i (.par p x) new E (Q (.dat res))) R] : EvK i (.par p x) m y E Q R := ⟨fun a h => ⟨x_mtKpd a (e.h h), x_mtKpo a (e.h h)⟩⟩
instance {m : WM1} [a : AtC E i bb] [e : EvK i bb m y E Q R] : Ev (mtK i m (.dat y) E Q) R := ⟨fun h => (e.h a.h h).1⟩
instance {m : WM1} [a : AtC E i bb] [e : EvK i bb m y E Q R] : Ev (mtK i m (.own y) E Q) R := ⟨fun h => (e.h a.h h).2⟩
class EvZ (T : String) (i : Nat) (b : B) (m : WM0) (E : En) (Q : B → En → Prop) (res : outParam Prop) : Prop where h : AtR E i b → res → wMut0 T i m E Q
instance {l : List D} {m : WM0} [e : Ev (m (.lst l) fun res new => putK i (.own (.lst l)) new E (Q (.dat res))) R] : EvZ "list" i (.own (.lst l)) m E Q R := ⟨fun a h => x_mut0o a rfl (e.h h)⟩
instance {l : List D} {m : WM0} {p : Addr} [e : Ev (m (.lst l) fun res new => putK i (.par p (.lst l)) new E (Q (.dat res))) R] : EvZ "list" i (.par p (.lst l)) m E Q R := ⟨fun a h => x_mut0p a rfl (e.h h)⟩
instance {T : String} {m : WM0} [a : AtC E i bb] [e : EvZ T i bb m E Q R] : Ev (wMut0 T i m E Q) R := ⟨fun h => e.h a.h h⟩
instance {l : List D} {PM : D → D → Prop}  [e : Ev (PM .non (.lst (l ++ [x]))) R] : Ev (mAppend (.lst l) x PM) (l.length < 16777216 ∧ R) := ⟨fun h => x_append h.1 (e.h h.2)⟩
instance {l m : List D} {PM : D → D → Prop}  [e : Ev (PM .non (.lst (l ++ m))) R] : Ev (mExtend (.lst l) (.lst m) PM) (l.length + m.length ≤ 16777216 ∧ R) := ⟨fun h => x_extend h.1 (e.h h.2)⟩
instance {tt : Bool}  [e : Ev (Q (.own (.dct tt [])) E) R] : Ev (wDct0 tt E Q) (R) := ⟨fun h => e.h h⟩
def dispK (ps : List (D × D)) (E : En) (Q : B → En → Prop) : Prop := (ps.all fun p => keyOk false p.1) = true ∧ ps.length ≤ 15 ∧ Q (.own (.dct false (ps.foldl (fun acc p => putD acc p.1 p.2) []))) E
def pairK2 (r : List (WE × WE)) (k v : B) (E : En) (QP : List (D × D) → En → Prop) : Prop := wPairs r E fun ps E3 => QP ((k.d, v.d) :: ps) E3
def pairK (wv : WE) (r : List (WE × WE)) (k : B) (E : En) (QP : List (D × D) → En → Prop) : Prop := wv E fun v E2 => pairK2 r k v E2 QP
theorem foldl_put : ∀ (ps acc : List (D × D)) , (∀ p ∈ ps, ∀ q ∈ acc, eqD q.1 p.1 = false) → ps.Pairwise (fun p q => eqD p.1 q.1 = false) → ps.foldl (fun acc p => putD acc p.1 p.2) acc = acc ++ ps
  | [], acc, _, _ => by simp
  | p :: ps, acc, h, hp => by
    obtain ⟨h1, h2⟩ := List.pairwise_cons.mp hp
    have e : putD acc p.1 p.2 = acc ++ [p] := by
      unfold putD
      rw [if_neg]
      rw [List.any_eq_true]
      rintro ⟨q, hq, e⟩
      rw [h p List.mem_cons_self q hq] at e; cases e
    rw [List.foldl_cons, e, foldl_put ps _ (fun p' hp' q hq => by
      rcases List.mem_append.mp hq with z | z
      · exact h p' (List.mem_cons_of_mem _ hp') q z
      · rw [List.mem_singleton.mp z]; exact h1 p' hp') h2]
    simp
instance {ws : List (WE × WE)}  [e : Ev (wPairs ws E fun ps E1 => dispK ps E1 Q) R] : Ev (wDisp ws E Q) (R) := ⟨fun h => e.h h⟩
instance {QP : List (D × D) → En → Prop}  [e : Ev (QP [] E) R] : Ev (wPairs [] E QP) (R) := ⟨fun h => e.h h⟩
instance {QP : List (D × D) → En → Prop} {ws : List (WE × WE)}  [e : Ev (wa E fun k E1 => pairK wb ws k E1 QP) R] : Ev (wPairs ((wa, wb) :: ws) E QP) (R) := ⟨fun h => e.h h⟩
instance {QP : List (D × D) → En → Prop} {ws : List (WE × WE)}  [e : Ev (wb E fun v E2 => pairK2 ws bb v E2 QP) R] : Ev (pairK wb ws bb E QP) (R) := ⟨fun h => e.h h⟩
instance {QP : List (D × D) → En → Prop} {ws : List (WE × WE)} {b2 : B} [d1 : DtC bb x] [d2 : DtC b2 y] [e : Ev (wPairs ws E fun ps E3 => QP ((x, y) :: ps) E3) R] : Ev (pairK2 ws bb b2 E QP) (R) := ⟨fun h => by unfold pairK2; rw [d1.h, d2.h]; exact e.h h⟩
instance  [e : Ev (Q (.own (.dct false [(x, y)])) E) R] : Ev (dispK [(x, y)] E Q) (keyOk false x = true ∧ R) := ⟨fun h => ⟨by show (keyOk false x && true) = true; rw [h.1]; rfl, Nat.le_of_ble_eq_true rfl, by show Q (.own (.dct false (putD [] x y))) E; exact e.h h.2⟩⟩
instance {s0 s1 : List Nat} {y0 y1 : D}  [e : Ev (Q (.own (.dct false [(.str s0, y0), (.str s1, y1)])) E) R] : Ev (dispK [(.str s0, y0), (.str s1, y1)] E Q) ([s0, s1].Nodup ∧ R) := ⟨fun h => ⟨rfl, Nat.le_of_ble_eq_true rfl, by rw [foldl_put _ [] (fun _ _ _ hq => by cases hq) (by simpa [List.pairwise_cons, eqD_str, List.nodup_cons] using h.1)]; exact e.h h.2⟩⟩
instance {s0 s1 s2 : List Nat} {y0 y1 y2 : D}  [e : Ev (Q (.own (.dct false [(.str s0, y0), (.str s1, y1), (.str s2, y2)])) E) R] : Ev (dispK [(.str s0, y0), (.str s1, y1), (.str s2, y2)] E Q) ([s0, s1, s2].Nodup ∧ R) := ⟨fun h => ⟨rfl, Nat.le_of_ble_eq_true rfl, by rw [foldl_put _ [] (fun _ _ _ hq => by cases hq) (by simpa [List.pairwise_cons, eqD_str, List.nodup_cons] using h.1)]; exact e.h h.2⟩⟩
instance {s0 s1 s2 s3 : List Nat} {y0 y1 y2 y3 : D}  [e : Ev (Q (.own (.dct false [(.str s0, y0), (.str s1, y1), (.str s2, y2), (.str s3, y3)])) E) R] : Ev (dispK [(.str s0, y0), (.str s1, y1), (.str s2, y2), (.str s3, y3)] E Q) ([s0, s1, s2, s3].Nodup ∧ R) := ⟨fun h => ⟨rfl, Nat.le_of_ble_eq_true rfl, by rw [foldl_put _ [] (fun _ _ _ hq => by cases hq) (by simpa [List.pairwise_cons, eqD_str, List.nodup_cons] using h.1)]; exact e.h h.2⟩⟩
instance {s0 s1 s2 s3 s4 : List Nat} {y0 y1 y2 y3 y4 : D}  [e : Ev (Q (.own (.dct false [(.str s0, y0), (.str s1, y1), (.str s2, y2), (.str s3, y3), (.str s4, y4)])) E) R] : Ev (dispK [(.str s0, y0), (.str s1, y1), (.str s2, y2), (.str s3, y3), (.str s4, y4)] E Q) ([s0, s1, s2, s3, s4].Nodup ∧ R) := ⟨fun h => ⟨rfl, Nat.le_of_ble_eq_true rfl, by rw [foldl_put _ [] (fun _ _ _ hq => by cases hq) (by simpa [List.pairwise_cons, eqD_str, List.nodup_cons] using h.1)]; exact e.h h.2⟩⟩
instance  [e : Ev (w E fun b E1 => itK b E1 QA) R] : Ev (iS w E QA) (R) := ⟨fun h => x_iS (e.h h)⟩
instance {l : List D}  [e : Ev (QA (l) E) R] : Ev (itK (.dat (.lst l)) E QA) (R) := ⟨fun h => x_itKld (e.h h)⟩
instance {l : List D}  [e : Ev (QA (l) E) R] : Ev (itK (.own (.lst l)) E QA) (R) := ⟨fun h => x_itKlo (e.h h)⟩
instance {l : List D}  [e : Ev (QA (l) E) R] : Ev (itK (.dat (.tup l)) E QA) (R) := ⟨fun h => x_itKtd (e.h h)⟩
instance {s : List Nat}  [e : Ev (QA (s.map fun c => D.str [c]) E) R] : Ev (itK (.dat (.str s)) E QA) (R) := ⟨fun h => x_itKsd (e.h h)⟩
instance {s : List Int}  [e : Ev (QA (s.map D.int) E) R] : Ev (itK (.dat (.scr s)) E QA) (R) := ⟨fun h => x_itKc (e.h h)⟩
instance {tt : Bool} {kd : List (D × D)}  [e : Ev (QA (kd.map (·.1)) E) R] : Ev (itK (.dat (.dct tt kd)) E QA) (R) := ⟨fun h => x_itKdd (e.h h)⟩
instance {tt : Bool} {kd : List (D × D)}  [e : Ev (QA (kd.map (·.1)) E) R] : Ev (itK (.own (.dct tt kd)) E QA) (R) := ⟨fun h => x_itKdo (e.h h)⟩
instance  [e : Ev (w E fun b E1 => r1K b E1 QA) R] : Ev (iR1 w E QA) (R) := ⟨fun h => x_iR1 (e.h h)⟩
instance  [e : Ev (wa E fun b E1 => wb E1 fun b2 E2 => r2K b b2 E2 QA) R] : Ev (iR2 wa wb E QA) (R) := ⟨fun h => x_iR2 (e.h h)⟩
instance {n : Int}  [e : Ev (QA (rng 0 n.toNat) E) R] : Ev (r1K (.dat (.int n)) E QA) ((-(2 ^ 62) ≤ n ∧ n < 2 ^ 62) ∧ R) := ⟨fun h => x_r1K h.1 (e.h h.2)⟩
instance {n m : Int}  [e : Ev (QA (rng n (m - n).toNat) E) R] : Ev (r2K (.dat (.int n)) (.dat (.int m)) E QA) ((-(2 ^ 62) ≤ n ∧ n < 2 ^ 62 ∧ -(2 ^ 62) ≤ m ∧ m < 2 ^ 62) ∧ R) := ⟨fun h => x_r2K h.1 (e.h h.2)⟩
instance {wi : WI} {wg : WG} {vs : List Nat}  [e : Ev (wi E fun ds E1 => lcK wg t we vs ds E1 Q) R] : Ev (wLc wi wg t we vs E Q) (R) := ⟨fun h => x_lc (e.h h)⟩
instance  [e : Ev (QT true E) R] : Ev (wYes E QT) (R) := ⟨fun h => e.h h⟩
instance {lo hi : WP}  [e : Ev (oa E fun o E1 => lo E1 fun p E2 => hi E2 fun q E3 => slK o p q E3 Q) R] : Ev (wSlice oa lo hi E Q) (R) := ⟨fun h => x_slice (e.h h)⟩
instance {p q : Option Int} [g : GetC E o x] [e : Ev (wSl x p q fun b => Q b E) R] : Ev (slK o p q E Q) (R) := ⟨fun h => by unfold slK; rw [g.h]; exact e.h h⟩
instance {QP : Option Int → En → Prop}  [e : Ev (QP none E) R] : Ev (pN E QP) (R) := ⟨fun h => x_pN (e.h h)⟩
instance {QP : Option Int → En → Prop}  [e : Ev (w E fun b E1 => psK b E1 QP) R] : Ev (pS w E QP) (R) := ⟨fun h => x_pS (e.h h)⟩
instance {n : Int} {QP : Option Int → En → Prop}  [e : Ev (QP (some n) E) R] : Ev (psK (.dat (.int n)) E QP) (R) := ⟨fun h => x_psK (e.h h)⟩
instance {T : String}  [e : Ev (oa E fun o E1 => m1K T wr ob o E1 Q) R] : Ev (wMt1 T wr oa ob E Q) (R) := ⟨fun h => x_mt1 (e.h h)⟩
instance {T : String}  [e : Ev (oa E fun o E1 => m0K T w1 o E1 Q) R] : Ev (wMt0 T w1 oa E Q) (R) := ⟨fun h => x_mt0 (e.h h)⟩
class TyC (T : String) (d : D) : Prop where h : tyO T (some d)
instance {s : List Nat} : TyC "str" (.str s) := ⟨rfl⟩
instance {l : List D} : TyC "list" (.lst l) := ⟨rfl⟩
instance {l : List Int} : TyC "list" (.scr l) := ⟨rfl⟩
instance {T : String} [g : GetC E o x] [ty : TyC T x] [e : Ev (ob E fun o2 E2 => opK wr o o2 E2 Q) R] : Ev (m1K T wr ob o E Q) (R) := ⟨fun h => ⟨by rw [g.h]; exact ty.h, e.h h⟩⟩
instance {T : String} [g : GetC E o x] [ty : TyC T x] [e : Ev (w1 x fun b => Q b E) R] : Ev (m0K T w1 o E Q) (R) := ⟨fun h => ⟨by rw [g.h]; exact ty.h, by unfold unK; rw [g.h]; exact e.h h⟩⟩
instance {n m : Int}  [e : Ev (P (.dat (.int (n + m)))) R] : Ev (wAdd (.int n) (.int m) P) (R) := ⟨fun h => x_addi (e.h h)⟩
instance {s s2 : List Nat}  [e : Ev (P (.dat (.str (s ++ s2)))) R] : Ev (wAdd (.str s) (.str s2) P) (s.length + s2.length ≤ 16777216 ∧ R) := ⟨fun h => x_adds h.1 (e.h h.2)⟩
instance {l l2 : List D}  [e : Ev (P (.own (.lst (l ++ l2)))) R] : Ev (wAdd (.lst l) (.lst l2) P) (l.length + l2.length ≤ 16777216 ∧ R) := ⟨fun h => x_addl h.1 (e.h h.2)⟩
instance {l l2 : List D}  [e : Ev (P (.dat (.tup (l ++ l2)))) R] : Ev (wAdd (.tup l) (.tup l2) P) (l.length + l2.length ≤ 16777216 ∧ R) := ⟨fun h => x_addt h.1 (e.h h.2)⟩
instance {n m : Int}  [e : Ev (P (.dat (.int (n - m)))) R] : Ev (wSub (.int n) (.int m) P) (R) := ⟨fun h => x_subi (e.h h)⟩
instance {n m : Int}  [e : Ev (P (.dat (.int (n * m)))) R] : Ev (wMulG (.int n) (.int m) P) (MulOk n m ∧ R) := ⟨fun h => x_muli h.1 (e.h h.2)⟩
instance {l : List D} {n : Int}  [e : Ev (P (.own (.lst (List.replicate n.toNat l).flatten))) R] : Ev (wMulG (.lst l) (.int n) P) ((-(2 ^ 63) ≤ n ∧ n < 2 ^ 63 ∧ l.length * n.toNat ≤ 16777216) ∧ R) := ⟨fun h => x_mull h.1 (e.h h.2)⟩
instance {s : List Nat} {n : Int}  [e : Ev (P (.dat (.str (List.replicate n.toNat s).flatten))) R] : Ev (wMulG (.str s) (.int n) P) ((n < 1000000 ∧ -1000000 < n ∧ s.length ≤ 16) ∧ R) := ⟨fun h => x_muls h.1 (e.h h.2)⟩
instance {n m : Int}  [e : Ev (P (.dat (.int (n % m)))) R] : Ev (wMod (.int n) (.int m) P) (0 < m ∧ R) := ⟨fun h => x_modi h.1 (e.h h.2)⟩
instance {n m : Int}  [e : Ev (P (.dat (.int (n / m)))) R] : Ev (wFdiv (.int n) (.int m) P) ((0 < m ∧ m.natAbs < 2 ^ 2000) ∧ R) := ⟨fun h => x_fdiv h.1 (e.h h.2)⟩
instance {n m : Int}  [e : Ev (P (.dat (.int (n ^ m.toNat)))) R] : Ev (wPow (.int n) (.int m) P) ((0 ≤ m ∧ m ≤ 1000000 ∧ n.natAbs < 2 ^ 64) ∧ R) := ⟨fun h => x_powi h.1 (e.h h.2)⟩
instance {n m : Int}  [e : Ev (P (.dat (.int (n * 2 ^ m.toNat)))) R] : Ev (wShl (.int n) (.int m) P) ((0 ≤ m ∧ m ≤ 1000000 ∧ n.natAbs < 2 ^ 64) ∧ R) := ⟨fun h => x_shli h.1 (e.h h.2)⟩
instance {n m : Int}  [e : Ev (P (.dat (.int (Builtin.bitAnd n m)))) R] : Ev (wBand (.int n) (.int m) P) (R) := ⟨fun h => x_bandi (e.h h)⟩
instance {n : Int}  [e : Ev (P (.dat (.int (-n)))) R] : Ev (wNeg (.int n) P) (R) := ⟨fun h => x_negi (e.h h)⟩
instance {n m : Int}  [e : Ev (P (.dat (.bl (decide (n = m))))) R] : Ev (wEq (.int n) (.int m) P) (R) := ⟨fun h => x_eqi (e.h h)⟩
instance {s s2 : List Nat}  [e : Ev (P (.dat (.bl (decide (s = s2))))) R] : Ev (wEq (.str s) (.str s2) P) (R) := ⟨fun h => x_eqs (e.h h)⟩
instance (priority := 500)  [e : Ev (P (.dat (.bl (eqD x y)))) R] : Ev (wEq x y P) (okD x = true ∧ okD y = true ∧ R) := ⟨fun h => x_eq h.1 h.2.1 (e.h h.2.2)⟩
instance {n m : Int}  [e : Ev (P (.dat (.bl (!decide (n = m))))) R] : Ev (wNe (.int n) (.int m) P) (R) := ⟨fun h => x_nei (e.h h)⟩
instance {s s2 : List Nat}  [e : Ev (P (.dat (.bl (!decide (s = s2))))) R] : Ev (wNe (.str s) (.str s2) P) (R) := ⟨fun h => x_nes (e.h h)⟩
instance (priority := 500)  [e : Ev (P (.dat (.bl (!eqD x y)))) R] : Ev (wNe x y P) (okD x = true ∧ okD y = true ∧ R) := ⟨fun h => x_ne h.1 h.2.1 (e.h h.2.2)⟩
instance  [e : Ev (P (.dat (.bl true))) R] : Ev (wEq (.bl true) (.bl true) P) (R) := ⟨fun h => ⟨.inr ⟨rfl, rfl⟩, e.h h⟩⟩
instance  [e : Ev (P (.dat (.bl false))) R] : Ev (wNe (.bl true) (.bl true) P) (R) := ⟨fun h => ⟨.inr ⟨rfl, rfl⟩, e.h h⟩⟩
instance  [e : Ev (P (.dat (.bl false))) R] : Ev (wEq (.bl true) (.bl false) P) (R) := ⟨fun h => ⟨.inr ⟨rfl, rfl⟩, e.h h⟩⟩
instance  [e : Ev (P (.dat (.bl true))) R] : Ev (wNe (.bl true) (.bl false) P) (R) := ⟨fun h => ⟨.inr ⟨rfl, rfl⟩, e.h h⟩⟩
instance  [e : Ev (P (.dat (.bl false))) R] : Ev (wEq (.bl false) (.bl true) P) (R) := ⟨fun h => ⟨.inr ⟨rfl, rfl⟩, e.h h⟩⟩
instance  [e : Ev (P (.dat (.bl true))) R] : Ev (wNe (.bl false) (.bl true) P) (R) := ⟨fun h => ⟨.inr ⟨rfl, rfl⟩, e.h h⟩⟩
instance  [e : Ev (P (.dat (.bl true))) R] : Ev (wEq (.bl false) (.bl false) P) (R) := ⟨fun h => ⟨.inr ⟨rfl, rfl⟩, e.h h⟩⟩
instance  [e : Ev (P (.dat (.bl false))) R] : Ev (wNe (.bl false) (.bl false) P) (R) := ⟨fun h => ⟨.inr ⟨rfl, rfl⟩, e.h h⟩⟩
instance {n m : Int}  [e : Ev (P (.dat (.bl (decide (n < m))))) R] : Ev (wLt (.int n) (.int m) P) (R) := ⟨fun h => x_lti (e.h h)⟩
instance {n m : Int}  [e : Ev (P (.dat (.bl (decide (m < n))))) R] : Ev (wGt (.int n) (.int m) P) (R) := ⟨fun h => x_gti (e.h h)⟩
instance {n m : Int}  [e : Ev (P (.dat (.bl (decide (n ≤ m))))) R] : Ev (wLe (.int n) (.int m) P) (R) := ⟨fun h => x_lei (e.h h)⟩
instance {n m : Int}  [e : Ev (P (.dat (.bl (decide (m ≤ n))))) R] : Ev (wGe (.int n) (.int m) P) (R) := ⟨fun h => x_gei (e.h h)⟩
instance {l l2 : List D}  [e : Ev (P (.dat (.bl (ltD (.tup l) (.tup l2))))) R] : Ev (wLt (.tup l) (.tup l2) P) (cmpOk (.tup l) (.tup l2) ∧ R) := ⟨fun h => x_ltt h.1 (e.h h.2)⟩
instance {l l2 : List D}  [e : Ev (P (.dat (.bl (ltD (.tup l2) (.tup l))))) R] : Ev (wGt (.tup l) (.tup l2) P) (cmpOk (.tup l) (.tup l2) ∧ R) := ⟨fun h => x_gtt h.1 (e.h h.2)⟩
instance {l l2 : List Nat}  [e : Ev (P (.dat (.bl (ltD (.str l) (.str l2))))) R] : Ev (wLt (.str l) (.str l2) P) (okS l ∧ okS l2 ∧ R) := ⟨fun h => x_lts h.1 h.2.1 (e.h h.2.2)⟩
instance {l l2 : List Nat}  [e : Ev (P (.dat (.bl (ltD (.str l2) (.str l))))) R] : Ev (wGt (.str l) (.str l2) P) (okS l ∧ okS l2 ∧ R) := ⟨fun h => x_gts h.1 h.2.1 (e.h h.2.2)⟩
instance  [e : Ev (P (.dat (.bl true))) R] : Ev (wIsN .non .non P) (R) := ⟨fun h => ⟨rfl, e.h h⟩⟩
instance  [e : Ev (P (.dat (.bl false))) R] : Ev (wNotN .non .non P) (R) := ⟨fun h => ⟨rfl, e.h h⟩⟩
instance {n : Int}  [e : Ev (P (.dat (.bl false))) R] : Ev (wIsN (.int n) .non P) (R) := ⟨fun h => ⟨rfl, e.h h⟩⟩
instance {n : Int}  [e : Ev (P (.dat (.bl true))) R] : Ev (wNotN (.int n) .non P) (R) := ⟨fun h => ⟨rfl, e.h h⟩⟩
instance {s : List Nat}  [e : Ev (P (.dat (.bl false))) R] : Ev (wIsN (.str s) .non P) (R) := ⟨fun h => ⟨rfl, e.h h⟩⟩
instance {s : List Nat}  [e : Ev (P (.dat (.bl true))) R] : Ev (wNotN (.str s) .non P) (R) := ⟨fun h => ⟨rfl, e.h h⟩⟩
instance {l : List D}  [e : Ev (P (.dat (.bl false))) R] : Ev (wIsN (.tup l) .non P) (R) := ⟨fun h => ⟨rfl, e.h h⟩⟩
instance {l : List D}  [e : Ev (P (.dat (.bl true))) R] : Ev (wNotN (.tup l) .non P) (R) := ⟨fun h => ⟨rfl, e.h h⟩⟩
instance {l : List D}  [e : Ev (P (.dat (.bl false))) R] : Ev (wIsN (.lst l) .non P) (R) := ⟨fun h => ⟨rfl, e.h h⟩⟩
instance {l : List D}  [e : Ev (P (.dat (.bl true))) R] : Ev (wNotN (.lst l) .non P) (R) := ⟨fun h => ⟨rfl, e.h h⟩⟩
instance {k : Bool}  [e : Ev (P (.dat (.bl false))) R] : Ev (wIsN (.bl k) .non P) (R) := ⟨fun h => ⟨rfl, e.h h⟩⟩
instance {k : Bool}  [e : Ev (P (.dat (.bl true))) R] : Ev (wNotN (.bl k) .non P) (R) := ⟨fun h => ⟨rfl, e.h h⟩⟩
instance {tt : Bool} {kd : List (D × D)}  [e : Ev (P (.dat (.bl false))) R] : Ev (wIsN (.dct tt kd) .non P) (R) := ⟨fun h => ⟨rfl, e.h h⟩⟩
instance {tt : Bool} {kd : List (D × D)}  [e : Ev (P (.dat (.bl true))) R] : Ev (wNotN (.dct tt kd) .non P) (R) := ⟨fun h => ⟨rfl, e.h h⟩⟩
instance (priority := 500)  [e : Ev (P (.dat (.bl (isNon x)))) R] : Ev (wIsN x .non P) (R) := ⟨fun h => ⟨rfl, e.h h⟩⟩
instance (priority := 500)  [e : Ev (P (.dat (.bl (!isNon x)))) R] : Ev (wNotN x .non P) (R) := ⟨fun h => ⟨rfl, e.h h⟩⟩
instance {k k2 : Bool}  [e : Ev (P (.dat (.bl (k == k2)))) R] : Ev (wIsB (.bl k) (.bl k2) P) (R) := ⟨fun h => x_isB (e.h h)⟩
instance {k k2 : Bool}  [e : Ev (P (.dat (.bl (!(k == k2))))) R] : Ev (wNotB (.bl k) (.bl k2) P) (R) := ⟨fun h => x_notB (e.h h)⟩
instance {l : List D}  [e : Ev (P (.dat (.bl (anyD x l)))) R] : Ev (wIn x (.lst l) P) (((flatD x = true ∧ l.all flatD = true) ∨ (okD x = true ∧ okD (.lst l) = true)) ∧ R) := ⟨fun h => x_inl h.1 (e.h h.2)⟩
instance {l : List D}  [e : Ev (P (.dat (.bl (anyD x l)))) R] : Ev (wIn x (.tup l) P) (flatD x = true ∧ l.all flatD = true ∧ R) := ⟨fun h => x_int_ h.1 h.2.1 (e.h h.2.2)⟩
instance {tt : Bool} {kd : List (D × D)}  [e : Ev (P (.dat (.bl ((lookD kd x).isSome)))) R] : Ev (wIn x (.dct tt kd) P) (keyOk tt x = true ∧ R) := ⟨fun h => x_ind h.1 (e.h h.2)⟩
instance {c0 : Nat} {s : List Nat}  [e : Ev (P (.dat (.bl (decide (c0 ∈ s))))) R] : Ev (wIn (.str [c0]) (.str s) P) (R) := ⟨fun h => x_ins (e.h h)⟩
instance {l : List D}  [e : Ev (P (.dat (.bl (!anyD x l)))) R] : Ev (wNin x (.lst l) P) (((flatD x = true ∧ l.all flatD = true) ∨ (okD x = true ∧ okD (.lst l) = true)) ∧ R) := ⟨fun h => x_ninl h.1 (e.h h.2)⟩
instance {l : List D}  [e : Ev (P (.dat (.bl (!anyD x l)))) R] : Ev (wNin x (.tup l) P) (flatD x = true ∧ l.all flatD = true ∧ R) := ⟨fun h => x_nint h.1 h.2.1 (e.h h.2.2)⟩
instance {tt : Bool} {kd : List (D × D)}  [e : Ev (P (.dat (.bl (!(lookD kd x).isSome)))) R] : Ev (wNin x (.dct tt kd) P) (keyOk tt x = true ∧ R) := ⟨fun h => x_nind h.1 (e.h h.2)⟩
instance {c0 : Nat} {s : List Nat}  [e : Ev (P (.dat (.bl (!decide (c0 ∈ s))))) R] : Ev (wNin (.str [c0]) (.str s) P) (R) := ⟨fun h => x_nins (e.h h)⟩
instance {l : List D}  [e : Ev (P (.dat (.int l.length))) R] : Ev (wLen (.lst l) P) (R) := ⟨fun h => x_lenl (e.h h)⟩
instance {l : List D}  [e : Ev (P (.dat (.int l.length))) R] : Ev (wLen (.tup l) P) (R) := ⟨fun h => x_lent (e.h h)⟩
instance {l : List Nat}  [e : Ev (P (.dat (.int l.length))) R] : Ev (wLen (.str l) P) (l.length ≤ 16777216 ∧ R) := ⟨fun h => x_lens h.1 (e.h h.2)⟩
instance {tt : Bool} {l : List (D × D)}  [e : Ev (P (.dat (.int l.length))) R] : Ev (wLen (.dct tt l) P) (R) := ⟨fun h => x_lend (e.h h)⟩
instance {l : List Int}  [e : Ev (P (.dat (.int l.length))) R] : Ev (wLen (.scr l) P) (R) := ⟨fun h => x_lenc (e.h h)⟩
instance {n : Int}  [e : Ev (P (.dat (.int n))) R] : Ev (wInt (.int n) P) (R) := ⟨fun h => x_inti (e.h h)⟩
instance {k : Bool}  [e : Ev (P (.dat (.int (if k = true then 1 else 0)))) R] : Ev (wInt (.bl k) P) (R) := ⟨fun h => x_intb (e.h h)⟩
instance {n m : Int}  [e : Ev (P (.dat (.int (max n m)))) R] : Ev (wMax2 (.int n) (.int m) P) (R) := ⟨fun h => x_max2 (e.h h)⟩
instance {n m : Int}  [e : Ev (P (.dat (.int (min n m)))) R] : Ev (wMin2 (.int n) (.int m) P) (R) := ⟨fun h => x_min2 (e.h h)⟩
instance {l : List D}  [e : Ev (P (.own (.lst l))) R] : Ev (wList (.lst l) P) (R) := ⟨fun h => x_listl (e.h h)⟩
instance {l : List D}  [e : Ev (P (.own (.lst l))) R] : Ev (wList (.tup l) P) (R) := ⟨fun h => x_listt (e.h h)⟩
instance {l : List D}  [e : Ev (P (.dat (.tup l))) R] : Ev (wTuple (.lst l) P) (R) := ⟨fun h => x_tuplel (e.h h)⟩
instance {l : List D}  [e : Ev (P (.dat (.tup l))) R] : Ev (wTuple (.tup l) P) (R) := ⟨fun h => x_tuplet (e.h h)⟩
instance {l : List D}  [e : Ev (P (.own (.lst (l.mergeSort leD)))) R] : Ev (wSorted (.lst l) P) (sortOk l ∧ R) := ⟨fun h => x_sorted h.1 (e.h h.2)⟩
instance {l : List D}  [e : Ev (P (.own (.lst l.reverse))) R] : Ev (wRev (.lst l) P) (R) := ⟨fun h => x_rev (e.h h)⟩
instance  [e : Ev (P (.dat (.bl false))) R] : Ev (wIsi "dict" .non P) (R) := ⟨fun h => (show P (.dat (.bl (isiD "dict" .non))) from (show isiD "dict" .non = false from rfl) ▸ e.h h)⟩
instance {n : Int}  [e : Ev (P (.dat (.bl false))) R] : Ev (wIsi "dict" (.int n) P) (R) := ⟨fun h => (show P (.dat (.bl (isiD "dict" (.int n)))) from (show isiD "dict" (.int n) = false from rfl) ▸ e.h h)⟩
instance {s : List Nat}  [e : Ev (P (.dat (.bl false))) R] : Ev (wIsi "dict" (.str s) P) (R) := ⟨fun h => (show P (.dat (.bl (isiD "dict" (.str s)))) from (show isiD "dict" (.str s) = false from rfl) ▸ e.h h)⟩
instance {l : List D}  [e : Ev (P (.dat (.bl false))) R] : Ev (wIsi "dict" (.tup l) P) (R) := ⟨fun h => (show P (.dat (.bl (isiD "dict" (.tup l)))) from (show isiD "dict" (.tup l) = false from rfl) ▸ e.h h)⟩
instance {l : List D}  [e : Ev (P (.dat (.bl false))) R] : Ev (wIsi "dict" (.lst l) P) (R) := ⟨fun h => (show P (.dat (.bl (isiD "dict" (.lst l)))) from (show isiD "dict" (.lst l) = false from rfl) ▸ e.h h)⟩
instance {k : Bool}  [e : Ev (P (.dat (.bl false))) R] : Ev (wIsi "dict" (.bl k) P) (R) := ⟨fun h => (show P (.dat (.bl (isiD "dict" (.bl k)))) from (show isiD "dict" (.bl k) = false from rfl) ▸ e.h h)⟩
instance {tt : Bool} {kd : List (D × D)}  [e : Ev (P (.dat (.bl true))) R] : Ev (wIsi "dict" (.dct tt kd) P) (R) := ⟨fun h => (show P (.dat (.bl (isiD "dict" (.dct tt kd)))) from (show isiD "dict" (.dct tt kd) = true from rfl) ▸ e.h h)⟩
instance  [e : Ev (P (.dat (.bl false))) R] : Ev (wIsi "list" .non P) (R) := ⟨fun h => (show P (.dat (.bl (isiD "list" .non))) from (show isiD "list" .non = false from rfl) ▸ e.h h)⟩
instance {n : Int}  [e : Ev (P (.dat (.bl false))) R] : Ev (wIsi "list" (.int n) P) (R) := ⟨fun h => (show P (.dat (.bl (isiD "list" (.int n)))) from (show isiD "list" (.int n) = false from rfl) ▸ e.h h)⟩
instance {s : List Nat}  [e : Ev (P (.dat (.bl false))) R] : Ev (wIsi "list" (.str s) P) (R) := ⟨fun h => (show P (.dat (.bl (isiD "list" (.str s)))) from (show isiD "list" (.str s) = false from rfl) ▸ e.h h)⟩
instance {l : List D}  [e : Ev (P (.dat (.bl false))) R] : Ev (wIsi "list" (.tup l) P) (R) := ⟨fun h => (show P (.dat (.bl (isiD "list" (.tup l)))) from (show isiD "list" (.tup l) = false from rfl) ▸ e.h h)⟩
instance {l : List D}  [e : Ev (P (.dat (.bl true))) R] : Ev (wIsi "list" (.lst l) P) (R) := ⟨fun h => (show P (.dat (.bl (isiD "list" (.lst l)))) from (show isiD "list" (.lst l) = true from rfl) ▸ e.h h)⟩
instance {k : Bool}  [e : Ev (P (.dat (.bl false))) R] : Ev (wIsi "list" (.bl k) P) (R) := ⟨fun h => (show P (.dat (.bl (isiD "list" (.bl k)))) from (show isiD "list" (.bl k) = false from rfl) ▸ e.h h)⟩
instance {tt : Bool} {kd : List (D × D)}  [e : Ev (P (.dat (.bl false))) R] : Ev (wIsi "list" (.dct tt kd) P) (R) := ⟨fun h => (show P (.dat (.bl (isiD "list" (.dct tt kd)))) from (show isiD "list" (.dct tt kd) = false from rfl) ▸ e.h h)⟩
instance  [e : Ev (P (.dat (.bl false))) R] : Ev (wIsi "tuple" .non P) (R) := ⟨fun h => (show P (.dat (.bl (isiD "tuple" .non))) from (show isiD "tuple" .non = false from rfl) ▸ e.h h)⟩
instance {n : Int}  [e : Ev (P (.dat (.bl false))) R] : Ev (wIsi "tuple" (.int n) P) (R) := ⟨fun h => (show P (.dat (.bl (isiD "tuple" (.int n)))) from (show isiD "tuple" (.int n) = false from rfl) ▸ e.h h)⟩
instance {s : List Nat}  [e : Ev (P (.dat (.bl false))) R] : Ev (wIsi "tuple" (.str s) P) (R) := ⟨fun h => (show P (.dat (.bl (isiD "tuple" (.str s)))) from (show isiD "tuple" (.str s) = false from rfl) ▸ e.h h)⟩
instance {l : List D}  [e : Ev (P (.dat (.bl true))) R] : Ev (wIsi "tuple" (.tup l) P) (R) := ⟨fun h => (show P (.dat (.bl (isiD "tuple" (.tup l)))) from (show isiD "tuple" (.tup l) = true from rfl) ▸ e.h h)⟩
instance {l : List D}  [e : Ev (P (.dat (.bl false))) R] : Ev (wIsi "tuple" (.lst l) P) (R) := ⟨fun h => (show P (.dat (.bl (isiD "tuple" (.lst l)))) from (show isiD "tuple" (.lst l) = false from rfl) ▸ e.h h)⟩
instance {k : Bool}  [e : Ev (P (.dat (.bl false))) R] : Ev (wIsi "tuple" (.bl k) P) (R) := ⟨fun h => (show P (.dat (.bl (isiD "tuple" (.bl k)))) from (show isiD "tuple" (.bl k) = false from rfl) ▸ e.h h)⟩
instance {tt : Bool} {kd : List (D × D)}  [e : Ev (P (.dat (.bl false))) R] : Ev (wIsi "tuple" (.dct tt kd) P) (R) := ⟨fun h => (show P (.dat (.bl (isiD "tuple" (.dct tt kd)))) from (show isiD "tuple" (.dct tt kd) = false from rfl) ▸ e.h h)⟩
instance  [e : Ev (P (.dat (.bl false))) R] : Ev (wIsi "bool" .non P) (R) := ⟨fun h => (show P (.dat (.bl (isiD "bool" .non))) from (show isiD "bool" .non = false from rfl) ▸ e.h h)⟩
instance {n : Int}  [e : Ev (P (.dat (.bl false))) R] : Ev (wIsi "bool" (.int n) P) (R) := ⟨fun h => (show P (.dat (.bl (isiD "bool" (.int n)))) from (show isiD "bool" (.int n) = false from rfl) ▸ e.h h)⟩
instance {s : List Nat}  [e : Ev (P (.dat (.bl false))) R] : Ev (wIsi "bool" (.str s) P) (R) := ⟨fun h => (show P (.dat (.bl (isiD "bool" (.str s)))) from (show isiD "bool" (.str s) = false from rfl) ▸ e.h h)⟩
instance {l : List D}  [e : Ev (P (.dat (.bl false))) R] : Ev (wIsi "bool" (.tup l) P) (R) := ⟨fun h => (show P (.dat (.bl (isiD "bool" (.tup l)))) from (show isiD "bool" (.tup l) = false from rfl) ▸ e.h h)⟩
instance {l : List D}  [e : Ev (P (.dat (.bl false))) R] : Ev (wIsi "bool" (.lst l) P) (R) := ⟨fun h => (show P (.dat (.bl (isiD "bool" (.lst l)))) from (show isiD "bool" (.lst l) = false from rfl) ▸ e.h h)⟩
instance {k : Bool}  [e : Ev (P (.dat (.bl true))) R] : Ev (wIsi "bool" (.bl k) P) (R) := ⟨fun h => (show P (.dat (.bl (isiD "bool" (.bl k)))) from (show isiD "bool" (.bl k) = true from rfl) ▸ e.h h)⟩
instance {tt : Bool} {kd : List (D × D)}  [e : Ev (P (.dat (.bl false))) R] : Ev (wIsi "bool" (.dct tt kd) P) (R) := ⟨fun h => (show P (.dat (.bl (isiD "bool" (.dct tt kd)))) from (show isiD "bool" (.dct tt kd) = false from rfl) ▸ e.h h)⟩
instance  [e : Ev (P (.dat (.bl false))) R] : Ev (wIsi "str" .non P) (R) := ⟨fun h => (show P (.dat (.bl (isiD "str" .non))) from (show isiD "str" .non = false from rfl) ▸ e.h h)⟩
instance {n : Int}  [e : Ev (P (.dat (.bl false))) R] : Ev (wIsi "str" (.int n) P) (R) := ⟨fun h => (show P (.dat (.bl (isiD "str" (.int n)))) from (show isiD "str" (.int n) = false from rfl) ▸ e.h h)⟩
instance {s : List Nat}  [e : Ev (P (.dat (.bl true))) R] : Ev (wIsi "str" (.str s) P) (R) := ⟨fun h => (show P (.dat (.bl (isiD "str" (.str s)))) from (show isiD "str" (.str s) = true from rfl) ▸ e.h h)⟩
instance {l : List D}  [e : Ev (P (.dat (.bl false))) R] : Ev (wIsi "str" (.tup l) P) (R) := ⟨fun h => (show P (.dat (.bl (isiD "str" (.tup l)))) from (show isiD "str" (.tup l) = false from rfl) ▸ e.h h)⟩
instance {l : List D}  [e : Ev (P (.dat (.bl false))) R] : Ev (wIsi "str" (.lst l) P) (R) := ⟨fun h => (show P (.dat (.bl (isiD "str" (.lst l)))) from (show isiD "str" (.lst l) = false from rfl) ▸ e.h h)⟩
instance {k : Bool}  [e : Ev (P (.dat (.bl false))) R] : Ev (wIsi "str" (.bl k) P) (R) := ⟨fun h => (show P (.dat (.bl (isiD "str" (.bl k)))) from (show isiD "str" (.bl k) = false from rfl) ▸ e.h h)⟩
instance {tt : Bool} {kd : List (D × D)}  [e : Ev (P (.dat (.bl false))) R] : Ev (wIsi "str" (.dct tt kd) P) (R) := ⟨fun h => (show P (.dat (.bl (isiD "str" (.dct tt kd)))) from (show isiD "str" (.dct tt kd) = false from rfl) ▸ e.h h)⟩
instance  [e : Ev (P (.dat (.bl false))) R] : Ev (wIsi "int" .non P) (R) := ⟨fun h => (show P (.dat (.bl (isiD "int" .non))) from (show isiD "int" .non = false from rfl) ▸ e.h h)⟩
instance {n : Int}  [e : Ev (P (.dat (.bl true))) R] : Ev (wIsi "int" (.int n) P) (R) := ⟨fun h => (show P (.dat (.bl (isiD "int" (.int n)))) from (show isiD "int" (.int n) = true from rfl) ▸ e.h h)⟩
instance {s : List Nat}  [e : Ev (P (.dat (.bl false))) R] : Ev (wIsi "int" (.str s) P) (R) := ⟨fun h => (show P (.dat (.bl (isiD "int" (.str s)))) from (show isiD "int" (.str s) = false from rfl) ▸ e.h h)⟩
instance {l : List D}  [e : Ev (P (.dat (.bl false))) R] : Ev (wIsi "int" (.tup l) P) (R) := ⟨fun h => (show P (.dat (.bl (isiD "int" (.tup l)))) from (show isiD "int" (.tup l) = false from rfl) ▸ e.h h)⟩
instance {l : List D}  [e : Ev (P (.dat (.bl false))) R] : Ev (wIsi "int" (.lst l) P) (R) := ⟨fun h => (show P (.dat (.bl (isiD "int" (.lst l)))) from (show isiD "int" (.lst l) = false from rfl) ▸ e.h h)⟩
instance {k : Bool}  [e : Ev (P (.dat (.bl true))) R] : Ev (wIsi "int" (.bl k) P) (R) := ⟨fun h => (show P (.dat (.bl (isiD "int" (.bl k)))) from (show isiD "int" (.bl k) = true from rfl) ▸ e.h h)⟩
instance {tt : Bool} {kd : List (D × D)}  [e : Ev (P (.dat (.bl false))) R] : Ev (wIsi "int" (.dct tt kd) P) (R) := ⟨fun h => (show P (.dat (.bl (isiD "int" (.dct tt kd)))) from (show isiD "int" (.dct tt kd) = false from rfl) ▸ e.h h)⟩
instance {l : List D} {p q : Option Int}  [e : Ev (P (.own (.lst (cut l p q)))) R] : Ev (wSl (.lst l) p q P) (R) := ⟨fun h => x_sll (e.h h)⟩
instance {l : List D} {p q : Option Int}  [e : Ev (P (.dat (.tup (cut l p q)))) R] : Ev (wSl (.tup l) p q P) (R) := ⟨fun h => x_slt (e.h h)⟩
instance {l : List Nat} {p q : Option Int}  [e : Ev (P (.dat (.str (cut l p q)))) R] : Ev (wSl (.str l) p q P) (l.length ≤ 16777216 ∧ R) := ⟨fun h => x_sls h.1 (e.h h.2)⟩

-- places of written-out lists
class NthC (l : List D) (n : Nat) (d : outParam D) : Prop where h : l[n]? = some d
instance {d : D} {l : List D} : NthC (d :: l) 0 d := ⟨rfl⟩
instance {d d0 : D} {l : List D} {n : Nat} [h : NthC l n d] : NthC (d0 :: l) (n + 1) d := ⟨by rw [List.getElem?_cons_succ]; exact h.h⟩
class PutC (l : List D) (n : Nat) (d : D) (l' : outParam (List D)) : Prop where
  h : l.set n d = l'
  k : n < l.length
instance {d d0 : D} {l : List D} : PutC (d0 :: l) 0 d (d :: l) := ⟨rfl, Nat.zero_lt_succ _⟩
instance {d d0 : D} {l l' : List D} {n : Nat} [h : PutC l n d l'] : PutC (d0 :: l) (n + 1) d (d0 :: l') := ⟨by rw [List.set_cons_succ, h.h], Nat.succ_lt_succ h.k⟩
class LitC (i : Int) (n : outParam Nat) : Prop where h : i = (n : Int)
instance : LitC 0 0 := ⟨rfl⟩
instance : LitC 1 1 := ⟨rfl⟩
instance : LitC 2 2 := ⟨rfl⟩
instance : LitC 3 3 := ⟨rfl⟩
instance : LitC 4 4 := ⟨rfl⟩
instance : LitC 5 5 := ⟨rfl⟩
instance : LitC 6 6 := ⟨rfl⟩
instance : LitC 7 7 := ⟨rfl⟩
instance : LitC 8 8 := ⟨rfl⟩
instance : LitC 9 9 := ⟨rfl⟩
instance : LitC 10 10 := ⟨rfl⟩
instance : LitC 11 11 := ⟨rfl⟩
instance : LitC 12 12 := ⟨rfl⟩
theorem ixN_nat {n k : Nat} (h : n < k) : ixN k (n : Int) = some n := by
  unfold L2.ixN
  rw [if_pos (by omega), if_pos (by omega)]; simp
instance (priority := 2000) {l : List D} {i : Int} {n : Nat} [q : LitC i n] [c : NthC l n x] [e : Ev (P (.dat x)) R] : Ev (wIx (.lst l) (.int i) P) R := ⟨fun h => x_ixl (by rw [q.h, atI_nat]; exact c.h) (e.h h)⟩
instance (priority := 2000) {l : List D} {i : Int} {n : Nat} [q : LitC i n] [c : NthC l n x] [e : Ev (P (.dat x)) R] : Ev (wIx (.tup l) (.int i) P) R := ⟨fun h => x_ixt (by rw [q.h, atI_nat]; exact c.h) (e.h h)⟩
instance (priority := 2000) {l l' : List D} {i : Int} {n : Nat} {N : D → Prop} [q : LitC i n] [c : PutC l n y l'] [e : Ev (N (.lst l')) R] : Ev (setD (.lst l) (.int i) y N) R := ⟨fun h => x_setl (n := n) (by rw [q.h, ixN_nat c.k]) (by rw [c.h]; exact e.h h)⟩
instance {l : List D} {n : Int} {N : D → Prop} [e : Ev (N (.lst (l.set n.toNat y))) R] : Ev (setD (.lst l) (.int n) y N) ((0 ≤ n ∧ n < l.length) ∧ R) := ⟨fun h => x_setl (n := n.toNat) (by
  obtain ⟨m, rfl⟩ := Int.eq_ofNat_of_zero_le h.1.1
  rw [ixN_nat (by have := h.1.2; omega)]; rfl) (e.h h.2)⟩
instance (priority := 500) {l : List D} {n : Int} {RD : D → Prop} [e : ∀ d, Ev (P (.dat d)) (RD d)] : Ev (wIx (.lst l) (.int n) P) (∃ d, atI l n = some d ∧ RD d) := ⟨fun ⟨d, k, h⟩ => x_ixl k ((e d).h h)⟩
instance (priority := 500) {l : List D} {n : Int} {RD : D → Prop} [e : ∀ d, Ev (P (.dat d)) (RD d)] : Ev (wIx (.tup l) (.int n) P) (∃ d, atI l n = some d ∧ RD d) := ⟨fun ⟨d, k, h⟩ => x_ixt k ((e d).h h)⟩
instance {l : List Int} {n : Int} {RD : Int → Prop} [e : ∀ d, Ev (P (.dat (.int d))) (RD d)] : Ev (wIx (.lst (l.map D.int)) (.int n) P) (∃ d, atI l n = some d ∧ RD d) := ⟨fun ⟨d, k, h⟩ => x_ixl (by rw [atI_map, k]; rfl) ((e d).h h)⟩
instance {l : List (List Nat)} {n : Int} {RD : List Nat → Prop} [e : ∀ d, Ev (P (.dat (.str d))) (RD d)] : Ev (wIx (.lst (l.map D.str)) (.int n) P) (∃ d, atI l n = some d ∧ RD d) := ⟨fun ⟨d, k, h⟩ => x_ixl (by rw [atI_map, k]; rfl) ((e d).h h)⟩
instance {s : List Nat} {n : Int} {RD : Nat → Prop} [e : ∀ d, Ev (P (.dat (.str [d]))) (RD d)] : Ev (wIx (.str s) (.int n) P) (s.length ≤ 16777216 ∧ ∃ d, atI s n = some d ∧ RD d) := ⟨fun ⟨k0, d, k, h⟩ => x_ixs k0 k ((e d).h h)⟩
instance {s : List Int} {n : Int} {RD : Int → Prop} [e : ∀ d, Ev (P (.dat (.int d))) (RD d)] : Ev (wIx (.scr s) (.int n) P) (∃ d, atI s n = some d ∧ RD d) := ⟨fun ⟨d, k, h⟩ => x_ixc k ((e d).h h)⟩
instance {tt : Bool} {kd : List (D × D)} {RD : D → Prop} [e : ∀ d, Ev (P (.dat d)) (RD d)] : Ev (wIx (.dct tt kd) x P) (keyOk tt x = true ∧ ∃ d, lookD kd x = some d ∧ RD d) := ⟨fun ⟨k0, d, k, h⟩ => x_ixd k0 k ((e d).h h)⟩
-- lists of one kind
class IntsC (l : List D) (ns : outParam (List Int)) : Prop where h : l = ns.map D.int
instance : IntsC [] [] := ⟨rfl⟩
instance {n : Int} {l : List D} {ns : List Int} [h : IntsC l ns] : IntsC (.int n :: l) (n :: ns) := ⟨by rw [h.h]; rfl⟩
instance {ns : List Int} : IntsC (ns.map D.int) ns := ⟨rfl⟩
class StrsC (l : List D) (ns : outParam (List (List Nat))) : Prop where h : l = ns.map D.str
instance : StrsC [] [] := ⟨rfl⟩
instance {n : List Nat} {l : List D} {ns : List (List Nat)} [h : StrsC l ns] : StrsC (.str n :: l) (n :: ns) := ⟨by rw [h.h]; rfl⟩
instance {ns : List (List Nat)} : StrsC (ns.map D.str) ns := ⟨rfl⟩
class BlsC (l : List D) (ns : outParam (List Bool)) : Prop where h : l = ns.map D.bl
instance : BlsC [] [] := ⟨rfl⟩
instance {n : Bool} {l : List D} {ns : List Bool} [h : BlsC l ns] : BlsC (.bl n :: l) (n :: ns) := ⟨by rw [h.h]; rfl⟩
instance {ns : List Bool} : BlsC (ns.map D.bl) ns := ⟨rfl⟩
instance {l : List D} {ns : List Int} [c : IntsC l ns] [e : Ev (P (.dat (.int ns.sum))) R] : Ev (wSum (.lst l) P) R := ⟨fun h => ⟨ns, c.h, e.h h⟩⟩
instance {l : List D} {ns : List Bool} [c : BlsC l ns] [e : Ev (P (.dat (.bl (ns.all id)))) R] : Ev (wAll (.lst l) P) R := ⟨fun h => ⟨ns, c.h, e.h h⟩⟩
instance {l : List D} {ns : List Bool} [c : BlsC l ns] [e : Ev (P (.dat (.bl (ns.any id)))) R] : Ev (wAny (.lst l) P) R := ⟨fun h => ⟨ns, c.h, e.h h⟩⟩
instance {l : List D} {RN : Nat → Prop} [e : ∀ j : Nat, Ev (P (.dat (.int (j : Nat)))) (RN j)] : Ev (wIndexL (.lst l) y P) (okD (.lst l) = true ∧ okD y = true ∧ ∃ j : Nat, idxOf l y = some j ∧ RN j) := ⟨fun ⟨k1, k2, j, k3, h⟩ => ⟨k1, k2, j, k3, (e j).h h⟩⟩
-- what the helpers promise
instance {PP : B → D → Prop} {n : Int} {RN : Int → D → Prop} [e : ∀ v d', Ev (PP (.dat (.int v)) d') (RN v d')] : Ev (f__law_draw x (.int n) PP) (isPool x ∧ (0 < n ∧ n < 2 ^ 1900) ∧ ∀ v d', 0 ≤ v → v < n → isPool d' → RN v d') := ⟨fun h => ⟨h.1, n, rfl, h.2.1.1, h.2.1.2, fun v d' a b c => (e v d').h (h.2.2 v d' a b c)⟩⟩
instance {PP : B → D → Prop} {RD : D → Prop} [e : ∀ d', Ev (PP (.dat .non) d') (RD d')] : Ev (f__law_next x PP) (isPool x ∧ ∀ d', isPool d' → RD d') := ⟨fun h => ⟨h.1, fun d' k => (e d').h (h.2 d' k)⟩⟩
instance {PP : B → D → Prop} {l : List D} {ss : List (List Nat)} {RD : List Nat → D → Prop} [c : StrsC l ss] [e : ∀ s d', Ev (PP (.dat (.str s)) d') (RD s d')] : Ev (f__law_pick x (.lst l) PP) (isPool x ∧ (ss ≠ [] ∧ ss.length ≤ 16777216) ∧ ∀ s d', s ∈ ss → isPool d' → RD s d') := ⟨fun h => ⟨h.1, l, rfl, by rw [c.h]; intro z; exact h.2.1.1 (List.map_eq_nil_iff.mp z), by rw [c.h, List.length_map]; exact h.2.1.2, fun y d' hy hp => by
  rw [c.h] at hy
  obtain ⟨s, hs, rfl⟩ := List.mem_map.mp hy
  exact (e s d').h (h.2.2 s d' hs hp)⟩⟩
instance {PP : B → D → Prop} {l : List D} {ss : List Int} {RD : Int → D → Prop} [c : IntsC l ss] [e : ∀ s d', Ev (PP (.dat (.int s)) d') (RD s d')] : Ev (f__law_pick x (.lst l) PP) (isPool x ∧ (ss ≠ [] ∧ ss.length ≤ 16777216) ∧ ∀ s d', s ∈ ss → isPool d' → RD s d') := ⟨fun h => ⟨h.1, l, rfl, by rw [c.h]; intro z; exact h.2.1.1 (List.map_eq_nil_iff.mp z), by rw [c.h, List.length_map]; exact h.2.1.2, fun y d' hy hp => by
  rw [c.h] at hy
  obtain ⟨s, hs, rfl⟩ := List.mem_map.mp hy
  exact (e s d').h (h.2.2 s d' hs hp)⟩⟩
instance (priority := 500) {PP : B → D → Prop} {l : List D} {RD : D → D → Prop} [e : ∀ s d', Ev (PP (.dat s) d') (RD s d')] : Ev (f__law_pick x (.lst l) PP) (isPool x ∧ (l ≠ [] ∧ l.length ≤ 16777216) ∧ ∀ s d', s ∈ l → isPool d' → RD s d') := ⟨fun h => ⟨h.1, l, rfl, h.2.1.1, h.2.1.2, fun y d' hy hp => (e y d').h (h.2.2 y d' hy hp)⟩⟩
instance {n : Nat} [e : Ev (P (.dat (.bl true))) R] : Ev (f__law_same n x y P) (SameN n x y ∧ R) := ⟨fun h => ⟨h.1, e.h h.2⟩⟩
instance {ns0 : List Int} {RX : D → Prop} [e : ∀ d, Ev (P (.own d)) (RX d)] : Ev (f__law_pool (.scr ns0) P) (∀ d, isPool d → RX d) := ⟨fun h => ⟨⟨_, rfl⟩, fun d k => (e d).h (h d k)⟩⟩
theorem rng_get {lo : Int} {n i : Nat} {d : D} (h : (rng lo n)[i]? = some d) : i < n ∧ d = .int (lo + (i : Int)) := by
  unfold rng at h
  rw [List.getElem?_map] at h
  rcases Nat.lt_or_ge i n with g | g
  · rw [List.getElem?_range g] at h
    exact ⟨g, (Option.some.inj h).symm⟩
  · rw [List.getElem?_eq_none (by rw [List.length_range]; exact g)] at h; cases h
theorem rng_len {lo : Int} {n : Nat} : (rng lo n).length = n := by unfold rng; rw [List.length_map, List.length_range]
class WipeC (E : En) (vs : List Nat) (E' : outParam En) : Prop where h : wipeE E vs = E'
instance {E : En} : WipeC E [] E := ⟨rfl⟩
instance {E E1 E2 : En} {v : Nat} {vs : List Nat} [a : WipeC E vs E1] [b : SetC E1 v none E2] : WipeC E (v :: vs) E2 := ⟨by unfold wipeE; rw [a.h, b.h.eq]⟩
class RawC (E : En) (i : Nat) (y : outParam (Option B)) : Prop where h : E[i]? = some y
instance {y : Option B} {l : En} : RawC (y :: l) 0 y := ⟨rfl⟩
instance {y x : Option B} {l : En} {i : Nat} [h : RawC l i y] : RawC (x :: l) (i + 1) y := ⟨by rw [List.getElem?_cons_succ]; exact h.h⟩
def keepB : Option B → Option B
  | some (.dat d) => some (.dat d)
  | _ => none
class KeepC (y : Option B) (z : outParam (Option B)) : Prop where h : keepB y = z
instance : KeepC none none := ⟨rfl⟩
instance {d : D} : KeepC (some (.dat d)) (some (.dat d)) := ⟨rfl⟩
instance {d : D} : KeepC (some (.own d)) none := ⟨rfl⟩
instance {a : Addr} {d : D} : KeepC (some (.par a d)) none := ⟨rfl⟩
class BackC (E1 E : En) (vs : List Nat) (E' : outParam En) : Prop where h : backE E1 E vs = E'
instance {E E1 : En} : BackC E1 E [] E1 := ⟨rfl⟩
instance {E E1 E2 E3 : En} {v : Nat} {vs : List Nat} {y z : Option B} [a : BackC E1 E vs E2] [r : RawC E v y] [k : KeepC y z] [b : SetC E2 v z E3] : BackC E1 E (v :: vs) E3 := ⟨by
  unfold backE
  rw [a.h, r.h]
  have hk := k.h
  have hb := b.h.eq
  rw [← hk] at hb
  rw [← hb]
  congr 1
  cases y with
  | none => rfl
  | some b => cases b <;> rfl⟩
theorem x_lcM' {E0 E9 : En} {t : WT} {we : WE} {wg : WG} {vs : List Nat} {ds : List D} (f : D → D) [e0 : WipeC E vs E0] [e9 : BackC E0 E vs E9] (hs : ∀ (i : Nat) (d : D), ds[i]? = some d → wg d E0 fun E2 => t E2 fun b E3 => if b = true then we E3 (yK (fun _ => true) f ds vs E0 i) else nK (fun _ => true) f ds vs E0 i E3)
    (hd : Q (.own (.lst (ds.map f))) E9) : lcK wg t we vs ds E Q := x_lcM f e0.h e9.h hs hd
theorem x_lcF' {E0 E9 : En} {t : WT} {we : WE} {wg : WG} {vs : List Nat} {ds : List D} (p : D → Bool) (f : D → D) [e0 : WipeC E vs E0] [e9 : BackC E0 E vs E9] (hs : ∀ (i : Nat) (d : D), ds[i]? = some d → wg d E0 fun E2 => t E2 fun b E3 => if b = true then we E3 (yK p f ds vs E0 i) else nK p f ds vs E0 i E3)
    (hd : Q (.own (.lst ((ds.filter p).map f))) E9) : lcK wg t we vs ds E Q := x_lcF p f e0.h e9.h hs hd
theorem yK_c {p : D → Bool} {f : D → D} {vs : List Nat} {ds : List D} {i : Nat} {E0 E4 : En} {d : D} {yb : B} {v : D} (hi : ds[i]? = some d) [dv : DtC yb v] [hw : WipeC E4 vs E0] (hl : ds.length ≤ 16777216) (hp : p d = true) (hf : v = f d) : yK p f ds vs E0 i yb E4 := yK_of hi hl hp (dv.h.trans hf) hw.h
theorem nK_c {p : D → Bool} {f : D → D} {vs : List Nat} {ds : List D} {i : Nat} {E0 E3 : En} {d : D} (hi : ds[i]? = some d) [hw : WipeC E3 vs E0] (hp : p d = false) : nK p f ds vs E0 i E3 := nK_of hi hp hw.h

/-! ### comprehensions whose items draw: F x is the state, p holds of x between -/
def jP {α : Type} (F : α → En) (p : α → Prop) : En → Prop := fun E' => ∃ x, p x ∧ E' = F x
theorem x_lcJ {α : Type} {we : WE} {wg : WG} {vs : List Nat} {ds : List D} (F : α → En) (p : α → Prop) (Pd : Nat → D → Prop) (x0 : α) (e0 : wipeE E vs = F x0) (p0 : p x0) {G : α → En} [e9 : ∀ x, BackC (F x) E vs (G x)]
    (hs : ∀ (i : Nat) (d : D) (acc : List D) (x : α), ds[i]? = some d → i < ds.length → p x → aW Pd (jP F p) ds.length i acc (F x) → wg d (F x) fun E2 => we E2 (aK Pd (jP F p) vs ds.length i acc))
    (hd : ∀ (acc : List D) (x : α), acc.length = ds.length → (∀ (j : Nat) (y : D), acc[j]? = some y → Pd j y) → p x → Q (.own (.lst acc)) (G x)) : lcK wg wYes we vs ds E Q := by
  refine x_lcA Pd (jP F p) (by rw [e0]; exact ⟨_, p0, rfl⟩) ?_ rfl ?_
  · rintro i d acc E' hi hlt ⟨x, hp, rfl⟩ hw
    exact hs i d acc x hi hlt hp hw
  · rintro acc E' hl ha ⟨x, hp, rfl⟩
    rw [(e9 x).h]
    exact hd acc x hl ha hp
theorem aK_c {α : Type} {F : α → En} {p : α → Prop} {Pd : Nat → D → Prop} {vs : List Nat} {n i : Nat} {acc : List D} {yb : B} {v : D} {E4 E5 E6 : En} (x : α) (hl : n ≤ 16777216) (h : aW Pd (jP F p) n i acc E6) (hn : i < n) [dv : DtC yb v] [hw : WipeC E4 vs E5] (he : E5 = F x) (hp : p x) (h1 : Pd i v) : aK Pd (jP F p) vs n i acc yb E4 :=
  aK_of (E' := E6) hl h hn (by rw [dv.h]; exact h1) (by rw [hw.h, he]; exact ⟨x, hp, rfl⟩)
/-- a loop behind which ways meet: M holds behind it -/
theorem x_forJ {g : WG} {ds : List D} (M : En → Prop) (h1 : ∀ nx' : En → Prop, (∀ E', M E' → nx' E') → forK g a ⟨nx', rt, bk, ct⟩ ds E) (h2 : ∀ E', M E' → nx E') : forK g a ⟨nx, rt, bk, ct⟩ ds E := h1 nx h2
theorem x_whileJ (M : En → Prop) (h1 : ∀ nx' : En → Prop, (∀ E', M E' → nx' E') → sWhile t a ⟨nx', rt, bk, ct⟩ E) (h2 : ∀ E', M E' → nx E') : sWhile t a ⟨nx, rt, bk, ct⟩ E := h1 nx h2

end
end PW

set_option Elab.async false
set_option linter.all false
set_option autoImplicit false
set_option maxRecDepth 100000
set_option maxHeartbeats 4000000
set_option synthInstance.maxHeartbeats 2000000
set_option synthInstance.maxSize 1000000
set_option exponentiation.threshold 5000
namespace PW
open PySem PySem.Spec PyProof.Rows L2

def N__law_mixed : Nat := 5
-- 0:number 1:place 2:first 3:second 4:third
def w__law_mixed : WS :=
  (sSeq (sSet 2 (wOp wMod (oE (wUn wInt (oE (wOp wAdd (oE (wOp wAdd (oE (wOp wMulG (oV 0) (oE (wC (.int 48271))))) (oE (wOp wMulG (oV 1) (oE (wC (.int 69621))))))) (oE (wC (.int 11))))))) (oE (wC (.int 618970019642690137449562111)))))
  (sSeq (sSet 3 (wOp wMod (oE (wUn wInt (oE (wOp wAdd (oE (wOp wAdd (oE (wOp wMulG (oV 2) (oV 2))) (oE (wOp wMulG (oE (wC (.int 7))) (oV 2))))) (oV 1))))) (oE (wC (.int 162259276829213363391578010288127)))))
  (sSeq (sSet 4 (wOp wMod (oE (wUn wInt (oE (wOp wAdd (oE (wOp wMulG (oV 3) (oV 3))) (oV 2))))) (oE (wC (.int 618970019642690137449562111)))))
  (sRet (wOp wAdd (oE (wOp wMulG (oV 3) (oE (wC (.int 618970019642690137449562111))))) (oV 4))))))
def N__law_rest : Nat := 4
-- 0:script 1:place 2:fills 3:number
def w__law_rest : WS :=
  (sSeq (sSet 3 (wC (.int 0)))
  (sJ (sIf (wTst (wOp wGt (oE (wUn wLen (oV 0))) (oE (wC (.int 0))))) (sSet 3 (wUn wInt (oE (wOp wIx (oV 0) (oE (wOp wMod (oE (wUn wInt (oV 1))) (oE (wUn wLen (oV 0))))))))) sNext)
  (sJ (sIf (wTst (wOp wLt (oV 3) (oE (wC (.int 0))))) (sSet 3 (wOp wSub (oE (wC (.int 1))) (oE (wOp wMulG (oE (wC (.int 2))) (oV 3))))) sNext)
  (sJ (sIf (wAnd (wTst (wOp wEq (oV 2) (oE (wC (.int 0))))) (wAnd (wTst (wOp wLt (oV 1) (oE (wUn wLen (oV 0))))) (wTst (wOp wGe (oV 3) (oE (wOp wPow (oE (wC (.int 10))) (oE (wC (.int 18))))))))) (sRet (wOp wSub (oV 3) (oE (wOp wPow (oE (wC (.int 10))) (oE (wC (.int 18))))))) sNext)
  (sRet (wCall (fs2 f__law_mixed) (aC (wOp wAdd (oV 3) (oE (wOp wMulG (oV 2) (oE (wC (.int 1000003)))))) (aC (wV 1) aN))))))))
def N__law_pool : Nat := 1
-- 0:script
def w__law_pool : WS :=
  (sRet (wLst (aC (wV 0) (aC (wC (.int 0)) (aC (wCall (fs3 f__law_rest) (aC (wV 0) (aC (wC (.int 0)) (aC (wC (.int 0)) aN)))) (aC (wC (.int 0)) aN))))))
def N__law_next : Nat := 1
-- 0:pool
def w__law_next : WS :=
  (sSeq (sSub 0 (wC (.int 1)) (wOp wAdd (oE (wOp wIx (oV 0) (oE (wC (.int 1))))) (oE (wC (.int 1)))))
  (sSeq (sSub 0 (wC (.int 2)) (wCall (fs3 f__law_rest) (aC (wOp wIx (oV 0) (oE (wC (.int 0)))) (aC (wOp wIx (oV 0) (oE (wC (.int 1)))) (aC (wC (.int 0)) aN)))))
  (sSub 0 (wC (.int 3)) (wC (.int 0)))))
def N__law_draw : Nat := 3
-- 0:pool 1:limit 2:value
def w__law_draw : WS :=
  (sJ (sIf (wTst (wOp wLe (oE (wOp wIx (oV 0) (oE (wC (.int 2))))) (oE (wC (.int 1))))) (sSeq (sSub 0 (wC (.int 3)) (wOp wAdd (oE (wOp wIx (oV 0) (oE (wC (.int 3))))) (oE (wC (.int 1)))))
  (sSub 0 (wC (.int 2)) (wCall (fs3 f__law_rest) (aC (wOp wIx (oV 0) (oE (wC (.int 0)))) (aC (wOp wIx (oV 0) (oE (wC (.int 1)))) (aC (wOp wIx (oV 0) (oE (wC (.int 3)))) aN)))))) sNext)
  (sSeq (sSet 2 (wOp wMod (oE (wUn wInt (oE (wOp wIx (oV 0) (oE (wC (.int 2))))))) (oV 1)))
  (sSeq (sSub 0 (wC (.int 2)) (wOp wFdiv (oE (wUn wInt (oE (wOp wIx (oV 0) (oE (wC (.int 2))))))) (oV 1)))
  (sRet (wM 2)))))
def N__law_pick : Nat := 2
-- 0:pool 1:options
def w__law_pick : WS :=
  (sRet (wOp wIx (oV 1) (oE (wCallP 0 (ps1 f__law_draw) (aC (wUn wLen (oV 1)) aN)))))
def N__law_same : Nat := 4
-- 0:due 1:answer 2:key 3:k
def w__law_same (self : FS) : WS :=
  (sSeq (sIf (wTst (wUn (wIsi "dict") (oV 0))) (sSeq (sIf (wOr (wNot (wTst (wUn (wIsi "dict") (oV 1)))) (wTst (wOp wNe (oE (wUn wLen (oV 0))) (oE (wUn wLen (oV 1)))))) (sRet (wC (.bl false))) sNext)
  (sSeq (sFor (iS (wV 0)) (gN 2) (sIf (wOr (wTst (wOp wNin (oV 2) (oV 1))) (wNot (wTst (wCall self (aC (wOp wIx (oV 0) (oV 2)) (aC (wOp wIx (oV 1) (oV 2)) aN)))))) (sRet (wC (.bl false))) sNext))
  (sRet (wC (.bl true))))) sNext)
  (sSeq (sIf (wOr (wTst (wUn (wIsi "list") (oV 0))) (wTst (wUn (wIsi "tuple") (oV 0)))) (sSeq (sIf (wOr (wTst (wOp wNe (oE (wUn (wIsi "list") (oV 0))) (oE (wUn (wIsi "list") (oV 1))))) (wTst (wOp wNe (oE (wUn (wIsi "tuple") (oV 0))) (oE (wUn (wIsi "tuple") (oV 1)))))) (sRet (wC (.bl false))) sNext)
  (sRet (wAndV (wOp wEq (oE (wUn wLen (oV 0))) (oE (wUn wLen (oV 1)))) (wUn wAll (oE (wLc (iR1 (wUn wLen (oV 0))) (gN 3) wYes (wCall self (aC (wOp wIx (oV 0) (oV 3)) (aC (wOp wIx (oV 1) (oV 3)) aN))) [3])))))) sNext)
  (sSeq (sIf (wOr (wTst (wOp wIsN (oV 0) (oE (wC .non)))) (wTst (wOp wIsN (oV 1) (oE (wC .non))))) (sRet (wAndV (wOp wIsN (oV 0) (oE (wC .non))) (wOp wIsN (oV 1) (oE (wC .non))))) sNext)
  (sSeq (sIf (wOr (wTst (wUn (wIsi "bool") (oV 0))) (wTst (wUn (wIsi "bool") (oV 1)))) (sRet (wAndV (wUn (wIsi "bool") (oV 0)) (wAndV (wUn (wIsi "bool") (oV 1)) (wOp wEq (oV 0) (oV 1))))) sNext)
  (sSeq (sIf (wTst (wUn (wIsi "str") (oV 0))) (sRet (wAndV (wUn (wIsi "str") (oV 1)) (wOp wEq (oV 0) (oV 1)))) sNext)
  (sRet (wAndV (wUn (wIsi "int") (oV 1)) (wOp wEq (oV 0) (oV 1)))))))))
local macro_rules | `(tactic| walk_at "sta") => `(tactic| with_reducible repeat (first | exact StaR.z | apply StaR.c | apply StaR.n))
local macro_rules | `(tactic| walk_at "start") => `(tactic| with_reducible first | refine LF2 (by walk_at "sta") ?_ | refine LF1 (by walk_at "sta") ?_ | refine LF3 (by walk_at "sta") ?_ | refine LF4 (by walk_at "sta") ?_ | refine LF0 (by walk_at "sta") ?_ | refine LF5 (by walk_at "sta") ?_ | refine LF6 (by walk_at "sta") ?_ | refine LP0 (by walk_at "sta") ?_ | refine LP1 (by walk_at "sta") ?_ | refine LP2 (by walk_at "sta") ?_ | refine LP3 (by walk_at "sta") ?_)
theorem law__law_mixed : ∀ a b Pp, f__law_mixed a b Pp → LF N__law_mixed w__law_mixed [a, b] Pp := by
  rintro a b Pp ⟨⟨i, rfl⟩, ⟨j, rfl⟩, k⟩
  unfold N__law_mixed w__law_mixed
  walk_at "start"
  refine ev_ ?_
  have h1 := Int.emod_nonneg (i * 48271 + j * 69621 + 11) (b := 618970019642690137449562111) (by decide)
  have h2 := Int.emod_lt_of_pos (i * 48271 + j * 69621 + 11) (b := 618970019642690137449562111) (by decide)
  generalize (i * 48271 + j * 69621 + 11) % 618970019642690137449562111 = u at *
  have h3 := Int.emod_nonneg (u * u + 7 * u + j) (b := 162259276829213363391578010288127) (by decide)
  have h4 := Int.emod_lt_of_pos (u * u + 7 * u + j) (b := 162259276829213363391578010288127) (by decide)
  generalize (u * u + 7 * u + j) % 162259276829213363391578010288127 = v at *
  exact ⟨mul_r (by decide), mul_r (by decide), by decide, mul_b (by omega) (by omega), mul_l (by decide), by decide, mul_b (by omega) (by omega), by decide, mul_b (by omega) (by decide), k _⟩
theorem law__law_rest : ∀ a b c Pp, f__law_rest a b c Pp → LF N__law_rest w__law_rest [a, b, c] Pp := by
  rintro a b c Pp ⟨⟨ns, rfl⟩, ⟨i, rfl⟩, ⟨j, rfl⟩, k⟩
  unfold N__law_rest w__law_rest
  walk_at "start"
  refine ev_ ?_
  refine x_join (fun E => ∃ n : Int, E = [some (.dat (.scr ns)), some (.dat (.int i)), some (.dat (.int j)), some (.dat (.int n))]) (fun nx' hn => ?_) ?_
  · refine ev_ite (fun h => ?_) (fun h => hn _ ⟨_, rfl⟩)
    have h1 := Int.emod_nonneg i (b := (ns.length : Int)) (by omega)
    have h2 := Int.emod_lt_of_pos i (b := (ns.length : Int)) h
    refine ⟨h, ns[(i % (ns.length : Int)).toNat]'(by omega), ?_, hn _ ⟨_, rfl⟩⟩
    rw [atI_pos h1]
    exact List.getElem?_eq_getElem _
  · rintro E ⟨n, rfl⟩
    refine ev_ ?_
    refine x_join (fun E => ∃ n : Int, E = [some (.dat (.scr ns)), some (.dat (.int i)), some (.dat (.int j)), some (.dat (.int n))]) (fun nx' hn => ?_) ?_
    · exact ev_ite (fun h => ⟨mul_l (by decide), hn _ ⟨_, rfl⟩⟩) (fun h => hn _ ⟨_, rfl⟩)
    · rintro E ⟨n, rfl⟩
      refine ev_ ?_
      refine x_join (fun E => E = [some (.dat (.scr ns)), some (.dat (.int i)), some (.dat (.int j)), some (.dat (.int n))]) (fun nx' hn => ?_) ?_
      · refine ev_ ?_
        exact ev_ite (fun h => x_iteD (fun h2 => ev_ ⟨by decide, x_iteD (fun h3 => ev_ ⟨by decide, k _⟩) fun h3 => hn _ rfl⟩) (fun h2 => hn _ rfl)) (fun h => hn _ rfl)
      · rintro E rfl
        exact ev_ ⟨mul_r (by decide), ⟨_, rfl⟩, ⟨_, rfl⟩, k⟩
theorem law__law_pool : ∀ a Pp, f__law_pool a Pp → LF N__law_pool w__law_pool [a] Pp := by
  rintro a Pp ⟨⟨ns, rfl⟩, k⟩
  unfold N__law_pool w__law_pool
  walk_at "start"
  exact ev_ ⟨⟨_, rfl⟩, ⟨_, rfl⟩, ⟨_, rfl⟩, fun v => ev_ (k _ ⟨ns, 0, v, 0, rfl⟩)⟩
theorem law__law_next : ∀ p a Pp, f__law_next a Pp → LP N__law_next w__law_next p a [] Pp := by
  rintro p a Pp ⟨⟨ns, i, v, c, rfl⟩, k⟩
  unfold N__law_next w__law_next
  walk_at "start"
  refine ev_ ?_
  exact ⟨⟨_, rfl⟩, ⟨_, rfl⟩, ⟨_, rfl⟩, fun v => ev_ (k _ ⟨_, _, _, _, rfl⟩)⟩
theorem law__law_draw : ∀ p a b Pp, f__law_draw a b Pp → LP N__law_draw w__law_draw p a [b] Pp := by
  rintro p a b Pp ⟨⟨ns, i, v, c, rfl⟩, n, rfl, n0, n1, k⟩
  unfold N__law_draw w__law_draw
  walk_at "start"
  refine ev_ ?_
  refine x_join (fun E => ∃ i v c : Int, E = [some (.par p (.lst [.scr ns, .int i, .int v, .int c])), some (.dat (.int n)), none]) (fun nx' hn => ?_) ?_
  · refine ev_ ?_
    refine ev_ite (fun h => ?_) (fun h => hn _ ⟨_, _, _, rfl⟩)
    exact ⟨⟨_, rfl⟩, ⟨_, rfl⟩, ⟨_, rfl⟩, fun v => ev_ (hn _ ⟨_, _, _, rfl⟩)⟩
  · rintro E ⟨i, v, c, rfl⟩
    refine ev_ ⟨n0, ⟨n0, by have : n.natAbs < 2 ^ 1900 := by omega
                            exact Nat.lt_trans this (by decide)⟩, k _ _ (Int.emod_nonneg _ (by omega)) (Int.emod_lt_of_pos _ n0) ⟨_, _, _, _, rfl⟩⟩
theorem law__law_pick : ∀ p a b Pp, f__law_pick a b Pp → LP N__law_pick w__law_pick p a [b] Pp := by
  rintro p a b Pp ⟨hp, l, rfl, l0, l1, k⟩
  unfold N__law_pick w__law_pick
  walk_at "start"
  have hl : 0 < l.length := List.length_pos_iff.mpr l0
  refine ev_ ⟨hp, ⟨by omega, by omega⟩, fun v d' v0 v1 hd => ?_⟩
  refine ⟨l[v.toNat]'(by omega), by rw [atI_pos v0]; exact List.getElem?_eq_getElem _, k _ _ (List.getElem_mem _) hd⟩
theorem rec0__law_same : ∀ ds Pp, fs2 (f__law_same 0) ds Pp → False := fun ds Pp ⟨a, b, _, h, _⟩ => h
theorem law__law_same (n : Nat) : ∀ a b Pp, f__law_same (n + 1) a b Pp → LF N__law_same (w__law_same (fs2 (f__law_same n))) [a, b] Pp := by
  rintro a b Pp ⟨hs, k⟩
  unfold N__law_same w__law_same
  walk_at "start"
  unfold SameN at hs
  split at hs
  · rename_i t kd t' kd'
    obtain ⟨hl, hs⟩ := hs
    refine ev_ ?_
    refine x_iteN (fun h => (h (by rw [hl])).elim) (fun _ => ?_)
    refine ev_ ?_
    refine x_forK (fun i E => ∃ z, E = [some (.dat (.dct t kd)), some (.dat (.dct t' kd')), z, none]) ⟨_, rfl⟩ ?_ ?_
    · rintro i d E hi ⟨z, rfl⟩
      rw [List.getElem?_map] at hi
      cases e : kd[i]? with
      | none => rw [e] at hi; cases hi
      | some p =>
        rw [e] at hi
        obtain rfl := Option.some.inj hi
        obtain ⟨k1, k2, v, v', l1, l2, s⟩ := hs p (List.mem_of_getElem? e)
        refine ev_ ⟨k2, ?_⟩
        rw [l2]
        exact x_iteM (fun h => by cases h) (fun _ => ev_ ⟨k1, v, l1, k2, v', l2, s, ⟨_, rfl⟩⟩)
    · rintro E ⟨z, rfl⟩
      exact ev_ k
  · rename_i l l'
    obtain ⟨hl, h2, hs⟩ := hs
    refine ev_ ?_
    refine x_iteD (fun _ => ev_ ⟨by omega, ?_⟩) (fun h => (h (by rw [hl])).elim)
    refine x_lcM' (fun _ => .bl true) (fun i d hi => ?_) ?_
    · obtain ⟨hlt, rfl⟩ := rng_get hi
      have hlt : i < l.length := by simpa using hlt
      refine ev_ ⟨l[i], ?_, l'[i]'(by omega), ?_, ?_, ?_⟩
      · rw [Int.zero_add, atI_nat]; exact List.getElem?_eq_getElem _
      · rw [Int.zero_add, atI_nat]; exact List.getElem?_eq_getElem _
      · exact hs i _ _ (List.getElem?_eq_getElem _) (List.getElem?_eq_getElem _)
      · exact yK_c hi (by rw [rng_len]; omega) rfl rfl
    · have e : (rng 0 (Int.toNat (l.length : Int))).map (fun _ => D.bl true) = (List.replicate l.length true).map D.bl := by
        rw [List.map_const', rng_len, List.map_replicate]; rfl
      rw [e]
      refine ev_ ?_
      rw [List.all_eq_true.mpr (fun x hx => by rw [(List.mem_replicate.mp hx).2]; rfl)]
      exact k
  · rename_i l l'
    obtain ⟨hl, h2, hs⟩ := hs
    refine ev_ ?_
    refine x_iteD (fun _ => ev_ ⟨by omega, ?_⟩) (fun h => (h (by rw [hl])).elim)
    refine x_lcM' (fun _ => .bl true) (fun i d hi => ?_) ?_
    · obtain ⟨hlt, rfl⟩ := rng_get hi
      have hlt : i < l.length := by simpa using hlt
      refine ev_ ⟨l[i], ?_, l'[i]'(by omega), ?_, ?_, ?_⟩
      · rw [Int.zero_add, atI_nat]; exact List.getElem?_eq_getElem _
      · rw [Int.zero_add, atI_nat]; exact List.getElem?_eq_getElem _
      · exact hs i _ _ (List.getElem?_eq_getElem _) (List.getElem?_eq_getElem _)
      · exact yK_c hi (by rw [rng_len]; omega) rfl rfl
    · have e : (rng 0 (Int.toNat (l.length : Int))).map (fun _ => D.bl true) = (List.replicate l.length true).map D.bl := by
        rw [List.map_const', rng_len, List.map_replicate]; rfl
      rw [e]
      refine ev_ ?_
      rw [List.all_eq_true.mpr (fun x hx => by rw [(List.mem_replicate.mp hx).2]; rfl)]
      exact k
  · exact ev_ k
  · subst hs
    refine ev_ ⟨rfl, rfl, ?_⟩
    rw [eqD_bl, beq_self_eq_true]
    exact k
  · subst hs
    refine ev_ ?_
    rw [decide_eq_true rfl]; exact k
  · subst hs
    refine ev_ ?_
    rw [decide_eq_true rfl]; exact k
  · exact hs.elim
/-- the same data, laid out without dicts -/
def noDct : Nat → D → Prop
  | 0, _ => False
  | n + 1, d => match d with
    | .dct _ _ => False
    | .scr _ => False
    | .lst l => l.length < 16777216 ∧ ∀ x ∈ l, noDct n x
    | .tup l => l.length < 16777216 ∧ ∀ x ∈ l, noDct n x
    | _ => True
theorem same_self : ∀ {n : Nat} {d : D}, noDct n d → SameN n d d
  | 0, _, h => h
  | n + 1, d, h => by
    unfold noDct at h
    unfold SameN
    cases d with
    | dct t kd => exact h.elim
    | scr l => exact h.elim
    | lst l => exact ⟨rfl, h.1, fun i x y hx hy => by rw [hx] at hy; cases hy; exact same_self (h.2 _ (List.mem_of_getElem? hx))⟩
    | tup l => exact ⟨rfl, h.1, fun i x y hx hy => by rw [hx] at hy; cases hy; exact same_self (h.2 _ (List.mem_of_getElem? hx))⟩
    | non => trivial
    | bl b => rfl
    | int i => rfl
    | str s => rfl
theorem bd_consJ {X : Cx} {st : Stmt} {rest : List Stmt} {a b : WS} (h1 : SD X st a) (h2 : BD X rest b) : BD X (st :: rest) (sJ a b) := bd_cons h1 h2
theorem rm70 {k : Nat} {A : Around} (h : Room k A) : A.units + 70 < cLine := by have := h.un; omega
/-! ### dicts with texts as keys -/
def lk {α : Type} (kd : List (List Nat × α)) (k : List Nat) : Option α := (kd.find? fun p => decide (p.1 = k)).map (·.2)
def pt {α : Type} (kd : List (List Nat × α)) (k : List Nat) (v : α) : List (List Nat × α) := if (kd.any fun p => decide (p.1 = k)) = true then kd.map (fun p => if p.1 = k then (p.1, v) else p) else kd ++ [(k, v)]
def kdD {α : Type} (f : α → D) (kd : List (List Nat × α)) : List (D × D) := kd.map fun p => (.str p.1, f p.2)
theorem kdD_len {α : Type} (f : α → D) (kd : List (List Nat × α)) : (kdD f kd).length = kd.length := List.length_map _
theorem lookD_kdD {α : Type} (f : α → D) (k : List Nat) : ∀ kd : List (List Nat × α), lookD (kdD f kd) (.str k) = (lk kd k).map f
  | [] => rfl
  | p :: kd => by
    have ih := lookD_kdD f k kd
    unfold lookD lk at *
    unfold kdD at *
    rw [List.map_cons, List.find?_cons, List.find?_cons]
    show Option.map _ (match eqD (.str p.1) (.str k) with | true => _ | false => _) = _
    rw [eqD_str]
    cases h : decide (p.1 = k) with
    | true => rfl
    | false => exact ih
theorem putD_kdD {α : Type} (f : α → D) (k : List Nat) (v : α) (kd : List (List Nat × α)) : putD (kdD f kd) (.str k) (f v) = kdD f (pt kd k v) := by
  unfold putD pt kdD
  have e : (kd.map fun p => ((.str p.1 : D), f p.2)).any (fun p => eqD p.1 (.str k)) = kd.any fun p => decide (p.1 = k) := by
    rw [List.any_map]
    congr 1
    funext p
    exact eqD_str _ _
  rw [e]
  split
  · rw [List.map_map, List.map_map]
    apply List.map_congr_left
    intro p _
    show (if eqD (.str p.1) (.str k) = true then _ else _) = _
    rw [eqD_str]
    by_cases h : p.1 = k
    · simp [h]
    · simp [h]
  · rw [List.map_append]; rfl
theorem pt_len {α : Type} (kd : List (List Nat × α)) (k : List Nat) (v : α) : (pt kd k v).length ≤ kd.length + 1 := by
  unfold pt; split <;> simp
theorem pt_mem {α : Type} {kd : List (List Nat × α)} {k : List Nat} {v : α} {p : List Nat × α} (h : p ∈ pt kd k v) : p.2 = v ∨ p ∈ kd := by
  unfold pt at h
  split at h
  · obtain ⟨q, hq, rfl⟩ := List.mem_map.mp h
    split
    · exact .inl rfl
    · exact .inr hq
  · rcases List.mem_append.mp h with z | z
    · exact .inr z
    · exact .inl (by rw [List.mem_singleton.mp z])
theorem kdD_keys {α : Type} (f : α → D) (kd : List (List Nat × α)) : (kdD f kd).map (·.1) = (kd.map (·.1)).map D.str := by
  unfold kdD; rw [List.map_map, List.map_map]; rfl
/-- the first place of x -/
def fi (l : List (List Nat)) (x : List Nat) : Option Nat := l.findIdx? fun z => decide (z = x)
theorem idxOf_str (x : List Nat) : ∀ l : List (List Nat), idxOf (l.map D.str) (.str x) = fi l x
  | [] => rfl
  | z :: l => by
    have ih := idxOf_str x l
    unfold idxOf fi at *
    rw [List.map_cons, List.findIdx?_cons, List.findIdx?_cons, eqD_str, ih]
theorem fi_none {l : List (List Nat)} {x : List Nat} : fi l x = none ↔ x ∉ l := by
  unfold fi
  rw [List.findIdx?_eq_none_iff]
  constructor
  · intro h hx
    have := h x hx
    simp at this
  · intro h z hz
    rw [decide_eq_false_iff_not]
    rintro rfl
    exact h hz
theorem lk_zip (x : List Nat) : ∀ (l : List (List Nat)) (n : Nat), lk (l.zipIdx n) x = (fi l x).map (· + n)
  | [], n => rfl
  | z :: l, n => by
    have ih := lk_zip x l (n + 1)
    unfold lk fi at *
    rw [List.zipIdx_cons, List.find?_cons, List.findIdx?_cons]
    cases h : decide (z = x) with
    | true => simp
    | false =>
      simp only [ih, Option.map_map]
      cases List.findIdx? (fun z => decide (z = x)) l with
      | none => rfl
      | some j => simp only [Option.map_some, Function.comp]; congr 1; simp; omega
theorem pt_zip {l : List (List Nat)} {x : List Nat} (h : x ∉ l) : pt l.zipIdx x l.length = (l ++ [x]).zipIdx := by
  unfold pt
  rw [if_neg, List.zipIdx_append]
  · simp
  · rw [List.any_eq_true]
    rintro ⟨p, hp, e⟩
    have := of_decide_eq_true e
    have hm := List.mem_zipIdx hp
    apply h
    rw [← this]
    obtain ⟨h1, h2, h3⟩ := hm
    rw [h3]
    exact List.getElem_mem _
theorem keyOk_str (s : List Nat) : keyOk false (.str s) = true := rfl
/-- what a comprehension's items are -/
theorem acc_of {α : Type} {f : α → D} {p : α → Prop} : ∀ {acc : List D}, (∀ (j : Nat) (y : D), acc[j]? = some y → ∃ v, y = f v ∧ p v) → ∃ ds : List α, acc = ds.map f ∧ ds.length = acc.length ∧ ∀ d ∈ ds, p d
  | [], _ => ⟨[], rfl, rfl, fun d h => by cases h⟩
  | y :: acc, h => by
    obtain ⟨v, rfl, hv⟩ := h 0 y rfl
    obtain ⟨ds, rfl, hl, hd⟩ := acc_of (acc := acc) fun j z hz => h (j + 1) z hz
    exact ⟨v :: ds, rfl, by simp, fun d hm => by
      rcases List.mem_cons.mp hm with e | e
      · subst e; exact hv
      · exact hd d e⟩
theorem okN_strs {l : List (List Nat)} (h : ∀ s ∈ l, okS s) : okN 1 (.lst (l.map D.str)) := okN_lst fun d hd => by
  obtain ⟨s, hs, rfl⟩ := List.mem_map.mp hd
  exact okN_str (h s hs)
theorem okN_ints (l : List Int) : okN 1 (.lst (l.map D.int)) := okN_lst fun d hd => by
  obtain ⟨v, _, rfl⟩ := List.mem_map.mp hd
  exact okN_int v
theorem eqD_strs (a b : List (List Nat)) : eqD (.lst (a.map D.str)) (.lst (b.map D.str)) = decide (a = b) := by rw [eqD_lst]; exact eqDs_dec eqS a b
theorem eqD_ints (a b : List Int) : eqD (.lst (a.map D.int)) (.lst (b.map D.int)) = decide (a = b) := by rw [eqD_lst]; exact eqDs_dec eqI a b
theorem flat_strs (l : List (List Nat)) : (l.map D.str).all flatD = true := by rw [List.all_map, List.all_eq_true]; intro _ _; rfl
theorem flat_ints (l : List Int) : (l.map D.int).all flatD = true := by rw [List.all_map, List.all_eq_true]; intro _ _; rfl
theorem anyD_strs (x : List Nat) (l : List (List Nat)) : anyD (.str x) (l.map D.str) = decide (x ∈ l) := (anyD_map eqS x l).trans (decide_eq_decide.mpr Iff.rfl)
theorem anyD_ints (x : Int) (l : List Int) : anyD (.int x) (l.map D.int) = decide (x ∈ l) := (anyD_map eqI x l).trans (decide_eq_decide.mpr Iff.rfl)
theorem noDct_strs (n : Nat) {l : List (List Nat)} (h : l.length < 16777216) : noDct (n + 2) (.lst (l.map D.str)) := ⟨by rw [List.length_map]; exact h, fun d hd => by
  obtain ⟨s, _, rfl⟩ := List.mem_map.mp hd
  trivial⟩
theorem noDct_ints (n : Nat) {l : List Int} (h : l.length < 16777216) : noDct (n + 2) (.lst (l.map D.int)) := ⟨by rw [List.length_map]; exact h, fun d hd => by
  obtain ⟨s, _, rfl⟩ := List.mem_map.mp hd
  trivial⟩
end PW

set_option Elab.async false
set_option linter.all false
set_option autoImplicit false
set_option maxRecDepth 100000
set_option maxHeartbeats 4000000
set_option synthInstance.maxHeartbeats 2000000
set_option synthInstance.maxSize 1000000
namespace PW
open PySem PySem.Spec PyProof.Rows L2

/-! ### a set of texts, made out of a list and sorted at once -/
def TxE (w : World) (e : Int × Value) : Prop := ∃ (k : Str) (tk : Tok), e.2 = Value.str k tk ∧ e.1 = hashStr w k
def txK (e : Int × Value) : Str := match e.2 with
  | .str k _ => k
  | _ => Str.empty
def SetX (w : World) (h : Heap) (a : Addr) (ks : List Str) : Prop :=
  ∃ o es ep t, h.get? a = some o ∧ o.ExactSet ∧ o.data = Data.set es ep t ∧ (∀ e ∈ es.toList, TxE w e) ∧ (es.toList.map txK).Perm ks ∧ es.size < scanBound ∧ t.fits es.size = true ∧ Ris t.place.toList ∧ (w.params.followText "set-order" = true ∨ t.led = true)
def stepX (ks : List Str) (k : Str) : List Str := if k ∈ ks then ks else ks ++ [k]
section
variable {P : Program} {w : World} {A : Around} {E : Value → Shared → Prop} {s : Shared} {h h' : Heap} {a : Addr} {ks : List Str}
theorem isTx (k : Str) (u : Tok) : (strKind P w).is k (.str k u) = true := by
  show Value.isStrOf k (.str k u) = true
  simp [Value.isStrOf]
theorem TxE.is {e : Int × Value} (g : TxE w e) (k : Str) : (strKind P w).is k e.2 = true ↔ txK e = k := by
  obtain ⟨k0, tk, h1, _⟩ := g
  have hk : txK e = k0 := by unfold txK; rw [h1]
  rw [hk, h1]
  exact ⟨fun q => ((strKind P w).inj (.str k0 tk) k k0 q (isTx k0 tk)).symm, fun q => by rw [← q]; exact isTx k0 tk⟩
theorem txElems {l : List (Int × Value)} (g : ∀ e ∈ l, TxE w e) : ElemsOf (strKind P w) l := fun e he => by
  obtain ⟨k, tk, h1, h2⟩ := g e he
  exact ⟨⟨k, by rw [h1]; exact isTx k tk, h2⟩, by rw [h1]; rfl⟩
theorem SetX.at (R : SetX w h a ks) (k : ∀ o, h.get? a = some o → h'.get? a = some o) : SetX w h' a ks := by
  obtain ⟨o, es, ep, t, ho, r⟩ := R
  exact ⟨o, es, ep, t, k o ho, r⟩
/-- the end of an add: the new payload is stored, and laid anew where it is too full -/
theorem setX_tail {g : Bool → Sem Unit} (hg : ∀ (b : Bool) (s₁ : Shared) (Q' : Unit → Shared → Prop), Q' () s₁ → wpAny (model P w) A (g b) Q' E s₁) {o : Obj} {es : Array (Int × Value)} {ep : Nat} {t : SetTable}
    (ho : s.heap.get? a = some o) (hex : o.ExactSet) (hd : o.data = .set es ep t) {es1 : Array (Int × Value)} {t2 : SetTable} (g1 : ∀ e ∈ es1.toList, TxE w e) (p1 : (es1.toList.map txK).Perm ks)
    (hb1 : es1.size < scanBound) (hf2 : t2.fits es1.size = true) (hr : Ris t2.place.toList) (hl : w.params.followText "set-order" = true ∨ t2.led = true) {wd : Bool} {R : Option Bool → Shared → Prop}
    (hR : ∀ h', Heap.SameBut a s.heap h' → SetX w h' a ks → R (some true) { s with heap := h' }) :
    wpAny (model P w) A (storeSet a es1 t2 >>= fun _ => if (!wd && t2.tooFull) = true then (g (relayAll t2 es1 (SetTable.grown es1.size)).2.2 >>= fun _ => storeSet a (relayAll t2 es1 (SetTable.grown es1.size)).1 (relayAll t2 es1 (SetTable.grown es1.size)).2.1 >>= fun _ => pure (some true)) else pure (some true)) R E s := by
  have ho1 := store_at (es' := es1) (t' := t2) ho hd
  have sb1 := Heap.SameBut.update s.heap a (Obj.putSet es1 t2)
  refine wpAny_bind (wpAny_storeSet_of ho hd ?_ (fits_of_scanBound hb1)); split
  · have pm := relayAll_perm t2 es1 (SetTable.grown es1.size); have hf3 := relayAll_fits t2 es1 (SetTable.grown es1.size)
    have hr3 := relayAll_ris t2 es1 (SetTable.grown es1.size); have hl3 := relayAll_led t2 es1 (SetTable.grown es1.size)
    generalize relayAll t2 es1 (SetTable.grown es1.size) = Z at *
    obtain ⟨es2, t3, gv⟩ := Z; dsimp only at *
    have hsz : es2.size = es1.size := by have := pm.length_eq; simpa using this
    have hb2 : es2.size < scanBound := hsz ▸ hb1
    refine wpAny_bind (hg _ _ _ (wpAny_bind (wpAny_storeSet_of ho1 rfl ?_ (fits_of_scanBound hb2))))
    refine wpAny_pure (hR _ (sb1.trans (Heap.SameBut.update _ a _)) ⟨_, es2, _, t3, store_at (es' := es2) (t' := t3) ho1 rfl, hex, rfl, fun e he => g1 e (pm.mem_iff.mp he), (pm.map txK).trans p1, hb2, hf3, hr3, hl.imp id fun z => by rw [hl3]; exact z⟩)
  · exact wpAny_pure (hR _ sb1 ⟨_, es1, _, t2, ho1, hex, rfl, g1, p1, hb1, hf2, hr, hl⟩)
theorem setX_add {k : Str} {tk : Tok} {Q : Bool → Shared → Prop} (R : SetX w s.heap a ks) (room : ks.length + 1 < scanBound)
    (hQ : ∀ b h', Heap.SameBut a s.heap h' → SetX w h' a (stepX ks k) → Q b { s with heap := h' }) : wpAny (model P w) A (setAddHashed a (.str k tk) ((strKind P w).hash k)) Q E s := by
  obtain ⟨o, es, ep, t, ho, hex, hd, g, pm0, hb, hf, hr, hl⟩ := R
  have hel : ElemsOf (strKind P w) es.toList := txElems g
  have hsc : (Value.str k tk).scannable = true := rfl
  have memk : k ∈ ks ↔ ∃ e ∈ es.toList, (strKind P w).is k e.2 = true := by
    rw [← pm0.mem_iff, List.mem_map]
    exact ⟨fun ⟨e, he, q⟩ => ⟨e, he, ((g e he).is k).mpr q⟩, fun ⟨e, he, q⟩ => ⟨e, he, ((g e he).is k).mp q⟩⟩
  unfold setAddHashed setAddHashedIn
  refine wpAny_holding (wpAny_bind (wpAny_setState_of ho hd hf ?_)); dsimp only
  rw [byScan_of hsc hb hel]; simp only [↓reduceIte]
  unfold setAddByScan
  refine wpAny_bind (wpAny_bind (wpAny_rule (wpAny_bind (wpAny_setScan_of (isTx k tk) ho hd hf hel ?_))))
  cases hfi : List.findIdx? (fun e => (strKind P w).is k e.2) es.toList with
  | some j =>
    obtain ⟨hj, pj, _⟩ := List.findIdx?_eq_some_iff_getElem.mp hfi
    have hm : k ∈ ks := memk.mpr ⟨_, List.getElem_mem hj, pj⟩
    have hs : stepX ks k = ks := if_pos hm
    refine wpAny_pure (wpAny_pure ?_)
    exact hQ _ s.heap (Heap.SameBut.refl a s.heap) (by rw [hs]; exact ⟨o, es, ep, t, ho, hex, hd, g, pm0, hb, hf, hr, hl⟩)
  | none =>
    have hm : ¬ k ∈ ks := fun z => by
      obtain ⟨e, he, q⟩ := memk.mp z
      rw [List.findIdx?_eq_none_iff.mp hfi e he] at q; cases q
    have hs : stepX ks k = ks ++ [k] := if_neg hm
    have hgw : ∀ (b : Bool) {s₁ : Shared} {Q' : Unit → Shared → Prop}, Q' () s₁ → wpAny (model P w) A (match b with | true => rule "set.scan.the-table-gave-way" | false => pure ()) Q' E s₁ := fun b s₁ Q' q => by
      cases b
      · exact wpAny_pure q
      · exact wpAny_rule q
    have pm := layNew_perm t es ((strKind P w).hash k) (.str k tk); have hf1 := layNew_fits t es ((strKind P w).hash k) (.str k tk)
    have hr1 := layNew_ris t es ((strKind P w).hash k) (.str k tk) hr; have hl1 := layNew_led t es ((strKind P w).hash k) (.str k tk)
    dsimp only
    generalize layNew t es ((strKind P w).hash k) (.str k tk) = Z at *
    obtain ⟨es1, t1, wd, gv⟩ := Z; dsimp only at *
    rw [Array.toList_push] at pm
    have g1 : ∀ e ∈ es1.toList, TxE w e := fun e he => by
      rcases List.mem_append.mp (pm.mem_iff.mp he) with z | z
      · exact g e z
      · rw [List.mem_singleton.mp z]; exact ⟨k, tk, rfl, rfl⟩
    have p1 : (es1.toList.map txK).Perm (stepX ks k) := by
      have q := pm.map txK
      rw [List.map_append] at q
      rw [hs]
      exact q.trans (pm0.append_right [k])
    have hb1 : es1.size < scanBound := by
      have := p1.length_eq
      rw [hs] at this
      simp at this
      omega
    have hled : w.params.followText "set-order" = true ∨ t1.led = true := hl.imp id fun z => by rw [hl1]; exact z
    refine wpAny_bind (hgw _ ?_); split
    · refine wpAny_bind ?_
      rw [hashByValue_scannable 8 hsc]
      refine wpAny_pure (setX_tail (fun b s₁ Q' q => hgw b q) ho hex hd g1 p1 hb1 ?_ ?_ ?_ fun h' sb r => wpAny_pure (hQ _ h' sb r))
      · split
        · exact SetTable.fits_plain_off hf1
        · exact hf1
      · split <;> exact hr1
      · split <;> exact hled
    · refine wpAny_bind (wpAny_pure ?_)
      simp only [↓reduceIte]
      exact setX_tail (fun b s₁ Q' q => hgw b q) ho hex hd g1 p1 hb1 hf1 hr1 hled fun h' sb r => wpAny_pure (hQ _ h' sb r)
theorem stepX_nodup {k : Str} (h : ks.Nodup) : (stepX ks k).Nodup := by
  unfold stepX; split
  · exact h
  · rename_i hk
    exact List.nodup_append.mpr ⟨h, by simp, fun x hx y hy e => hk (by rw [List.mem_singleton.mp hy] at e; rw [← e]; exact hx)⟩
theorem stepX_mem {k x : Str} : x ∈ stepX ks k ↔ x ∈ ks ∨ x = k := by
  unfold stepX; split
  · rename_i hk
    exact ⟨.inl, fun z => z.elim id fun e => by rw [e]; exact hk⟩
  · rw [List.mem_append, List.mem_singleton]
theorem stepX_len {k : Str} : (stepX ks k).length ≤ ks.length + 1 := by
  unfold stepX; split <;> simp
def GotX (w : World) (h : Heap) (a : Addr) (xs : List Str) : Prop := ∃ ks : List Str, ks.Nodup ∧ (∀ x, x ∈ ks ↔ x ∈ xs) ∧ ks.length ≤ xs.length ∧ SetX w h a ks
variable {I : Addr} {fp wr : List Addr} {G : Array GenState → Array GenState → Prop} {n : Nat} {Pv : Nat → Value → Prop} {St : Nat → Shared → Prop} {R : Result → Shared → Prop}
theorem setX_loop (W : WalksS P w A.in1 I fp wr G n Pv St) (hSf : a ∉ fp) (xs : List Str) (hn : xs.length = n) (hval : ∀ i v, Pv i v → ∃ t, v = .str (xs.getD i Str.empty) t) (hb : n + 1 < scanBound) :
    ∀ (k i : Nat) (s : Shared), n - i = k → i ≤ n → St i s → GotX w s.heap a (xs.take i) → (∀ s', Moved (a :: wr) G s s' → GotX w s'.heap a xs → R (.ok (.ret .none)) s') →
      codeAny (model P w) A (.builtin "set.update.loop" ⟨[.ref a, .ref I], []⟩) R s := by
  have hSw : a ∉ wr := fun z => hSf (W.sub _ z)
  have hsub : ∀ b ∈ wr, b ∈ a :: wr := fun b z => List.mem_cons_of_mem _ z
  intro k
  induction k with
  | zero =>
    intro i s hk hi hst ⟨ks, h1, h2, h3, h4⟩ hR
    obtain rfl : i = n := by omega
    refine codeAny_builtin PyProof.Rows.F.entry_set_update_loop ?_
    rw [Around.under_plainId PyProof.Rows.F.plain_set_update_loop _]
    show wpAny _ A.in1 (pyNext (.ref I) >>= _) _ _ s
    refine wpAny_bind (W.done s _ _ hst fun s' hm => (?_ : wpAny _ A.in1 (ret Value.none) _ _ s'))
    rw [← hn, List.take_length] at h2 h3
    exact wpAny_pure (hR s' (hm.mono hsub) ⟨ks, h1, h2, h3, h4.at fun o e => hm.heap a o hSw e⟩)
  | succ k ih =>
    intro i s hk hi hst ⟨ks, h1, h2, h3, h4⟩ hR
    have hlt : i < n := by omega
    have hx : xs[i]? = some (xs.getD i Str.empty) := by rw [List.getD_eq_getElem?_getD, List.getElem?_eq_getElem (by omega)]; rfl
    refine codeAny_builtin PyProof.Rows.F.entry_set_update_loop ?_
    rw [Around.under_plainId PyProof.Rows.F.plain_set_update_loop _]
    show wpAny _ A.in1 (pyNext (.ref I) >>= _) _ _ s
    refine wpAny_bind (W.item i s _ _ hlt hst fun v s' hP hst' hm => ?_)
    obtain ⟨t, rfl⟩ := hval i v hP
    have h5 : SetX w s'.heap a ks := h4.at fun o e => hm.heap a o hSw e
    rw [List.length_take] at h3
    show wpAny _ A.in1 (holding [Value.str (xs.getD i Str.empty) t] (setAdd a (.str (xs.getD i Str.empty) t)) >>= _) _ _ s'
    refine wpAny_bind (wpAny_holding ?_); unfold setAdd
    refine wpAny_holding (wpAny_bind ((strKind P w).pyHash (k := xs.getD i Str.empty) (isTx _ _) ?_))
    refine setX_add (s := { s' with toks := s'.toks + 1 }) h5 (by omega) fun b h' hsb h6 => ?_
    have hg : GotX w h' a (xs.take (i + 1)) := ⟨_, stepX_nodup h1, fun x => by rw [stepX_mem, h2, take_snoc hx, List.mem_append, List.mem_singleton], by rw [List.length_take]; have := stepX_len (ks := ks) (k := xs.getD i Str.empty); omega, h6⟩
    refine wpAny_pure ⟨plainId_quiet PyProof.Rows.F.plain_set_update_loop _, ih (i + 1) _ (by omega) hlt (W.frame _ s' _ _ hst' (Nat.le_succ _) fun b hb o e => ?_) hg fun s'' hm'' hS'' => hR s'' (Moved.trans W.gtrans ((hm.mono hsub).then_heap (Nat.le_succ _) fun b o hb e => ?_) hm'') hS''⟩
    · rw [hsb.2 b (fun z : b = a => hSf (by rw [← z]; exact hb))]; exact e
    · rw [hsb.2 b (fun z : b = a => hb (by rw [z]; exact List.mem_cons_self))]; exact e
abbrev freshX (w : World) : Obj := { cls := .type "set", dict := none, data := .set #[] 0 (.fresh 0 0 (!w.params.followText "set-order")) }
theorem code_setX (v : Value) {Q₁ : Value → Shared → Prop} (h : Q₁ (.ref s.heap.objs.size) { s with heap := s.heap.push (freshX w) }) :
    codeAny (model P w) A (.call (.builtin "set.__new__") ⟨[.type "set", v], []⟩) (wants Q₁ E) s := by
  refine codeAny_of_tree (?_ : wpAny _ A.in1 (checkBuiltinCall "set.__new__" ⟨[.type "set", v], []⟩ >>= fun _ => again (.builtin "set.__new__" ⟨[.type "set", v], []⟩)) _ _ s)
  refine wpAny_bind (wpAny_of_eq (PySem.F.newCall_set_1 v) (wpAny_pure ⟨plainId_quiet PySem.F.plain_set_new _, codeAny_builtin PySem.F.entry_set_new ?_⟩))
  rw [Around.under_plainId PySem.F.plain_set_new _]
  unfold Builtin.«set.__new__» Builtin.Frozenset.newClass
  have hsub := sub_set_self
  obtain ⟨hp, g, d, tk, os⟩ := s
  dsimp only
  wp_walk
  refine wpAny_askSetting (wpAny_pure ?_); dsimp only
  simp only [newObj]
  exact wpAny_bind (wpAny_alloc (wpAny_pure (wpAny_pure h)))
theorem setX_fresh {h : Heap} : GotX w (h.push (freshX w)) h.objs.size [] := ⟨[], .nil, fun x => Iff.rfl, Nat.le_refl _, _, #[], 0, _, Heap.get?_push_size _ rfl, ⟨rfl, rfl, rfl⟩, rfl, fun e he => by simp at he, by simp, by decide, by rfl, List.Pairwise.nil, by
  show _ ∨ (!w.params.followText "set-order") = true
  cases w.params.followText "set-order"
  · exact .inr rfl
  · exact .inl rfl⟩
theorem strs_get : ∀ {us : List Value} {xs : List Str}, Vals (xs.map V.str) us → ∀ (i : Nat) (v : Value), us[i]? = some v → ∃ t, v = .str (xs.getD i Str.empty) t
  | _, [], .nil, i, v, z => by simp at z
  | _, x :: xs, .cons r rest, 0, v, z => by
    obtain ⟨t, rfl⟩ := r
    exact ⟨t, (Option.some.inj z).symm⟩
  | _, x :: xs, .cons r rest, i + 1, v, z => by
    rw [List.getElem?_cons_succ] at z
    obtain ⟨t, e⟩ := strs_get rest i v z
    exact ⟨t, by rw [e]; rfl⟩
set_option maxHeartbeats 8000000 in
/-- set(a list of texts) -/
theorem setX_list {l : Addr} {items : Array Value} {xs : List Str} {Q : Value → Shared → Prop} (hh : A.handled = none) (hl : s.heap.IsList l items) (hi : Vals (xs.map V.str) items.toList) (hb : xs.length + 1 < scanBound)
    (hq : ∀ (h' : Heap) (tk : Nat), GotX w h' s.heap.objs.size xs → (∀ b o, b < s.heap.objs.size → s.heap.get? b = some o → h'.get? b = some o) → Q (.ref s.heap.objs.size) { s with heap := h', toks := tk }) :
    wpAny (model P w) A (call (.type "set") [.ref l]) Q E s := by
  have hsz : items.size = xs.length := by have := hi.length; simpa using this.symm
  obtain ⟨cm, tl, hmro⟩ := PySem.F.called_set.mro
  have hmade := PySem.F.called_set.made; have hsub := PySem.F.called_set.sub
  refine wpAny_call (codeAny_of_tree (?_ : wpAny _ _ (callAny (.type "set") _) _ _ _))
  refine wpAny_pure ⟨Code.quiet_builtin _ (by decide +kernel), codeAny_builtin PySem.F.entry_type_call ?_⟩
  rw [Around.under_plain (weight_type_call_type "set" [.ref l] []) rfl]
  have h1 := PySem.F.called_set.notType; have h2 := PySem.F.called_set.canCreate; have hct := PySem.F.typeCall_set_1 (.ref l)
  repeat (any_goals (first | assumption | wp_step))
  refine codeAny_mono (code_setX (.ref l) (E := E) (Q₁ := fun obj s₁ => obj = .ref s.heap.objs.size ∧ s₁ = { s with heap := s.heap.push (freshX w) }) ⟨rfl, rfl⟩) fun r s₁ hr => ?_
  cases r with
  | error e => exact hr
  | ok fl =>
    cases fl with
    | ret obj =>
      obtain ⟨rfl, rfl⟩ := hr
      have hS : (s.heap.push (freshX w)).get? s.heap.objs.size = some (freshX w) := Heap.get?_push_size _ rfl
      have hT : Shared.TypeIs { s with heap := s.heap.push (freshX w) } (.ref s.heap.objs.size) "set" := ⟨_, hS, rfl⟩
      have hli := PySem.F.called_set.init.lookup; have hbi := PySem.F.called_set.init.bind (.ref s.heap.objs.size)
      repeat (any_goals (first | assumption | wp_step))
      refine codeAny_mono (codeAny_call_builtin (R := wants (fun r s₂ => r = .none ∧ ∃ h' tk, s₂ = { s with heap := h', toks := tk } ∧ GotX w h' s.heap.objs.size xs ∧ (∀ b o, b < s.heap.objs.size → s.heap.get? b = some o → h'.get? b = some o)) E)
        PySem.F.called_set.init.plain PySem.F.entry_set_init (check_set_init_1 hT ?_)) fun r₂ s₂ hr₂ => ?_
      · obtain ⟨ol, hol, hcl, nl, hdl⟩ := hl
        obtain ⟨ocls, odict, odata, oslots⟩ := ol
        simp only at hcl hdl; subst hcl; subst hdl
        have hol' : (s.heap.push (freshX w)).get? l = some { cls := .type "list", dict := odict, data := .seq items nl, slots := oslots } := Heap.get?_push_of_some _ hol
        have hsls := PySem.F.sub_list_set; have hslf := PySem.F.sub_list_frozenset
        have hne : (Value.type "list" == Value.type "dict") = false := by decide
        have hl1 : (s.heap.push (freshX w)).IsList l items := ⟨_, hol', rfl, nl, rfl⟩
        unfold Builtin.«set.__init__» noKeywords Builtin.Frozenset.updateFrom
        generalize hPI : pyIter = PI
        wp_walk
        subst hPI
        refine wpAny_pyIter_list hl1 (wpAny_bind (wpAny_runValue ?_))
        have hlS : l < s.heap.objs.size := Heap.lt_size hol
        have hz : (s.heap.push (freshX w)).objs.size = s.heap.objs.size + 1 := Heap.size_push _ _
        have hh3 : A.in1.in1.in1.handled = none := by simp [hh]
        refine setX_loop (a := s.heap.objs.size) (n := items.size) ((Walks.list hh3 _ l (by rw [hz]; exact Nat.ne_of_lt (Nat.lt_succ_of_lt hlS)) items).toS) (by rw [hz]; simp only [List.mem_cons, List.not_mem_nil, or_false, not_or]; exact ⟨Nat.ne_of_lt (Nat.lt_succ_self _), Nat.ne_of_gt hlS⟩) xs hsz.symm
          (fun i v hv => strs_get hi i v (by rw [Array.getElem?_toList]; exact hv)) (by omega) (items.size - 0) 0 _ (by omega) (Nat.zero_le _) ⟨⟨_, Heap.get?_push_size _ rfl, rfl, rfl⟩, (hl1.push _)⟩ ?hS0 ?hR
        case hS0 =>
          obtain ⟨ks, k1, k2, k3, k4⟩ := setX_fresh (w := w) (h := s.heap)
          exact ⟨ks, k1, k2, k3, k4.at fun o e => Heap.get?_push_of_some _ e⟩
        case hR =>
          intro s' hm hS'
          obtain ⟨h', g', d', tk', os'⟩ := s'
          have eg : g' = s.gens := hm.gens
          have ed : d' = s.drawn := hm.drawn
          have eo : os' = s.os := hm.os
          subst eg; subst ed; subst eo
          show wpAny _ _ _ _ _ _
          refine wpAny_pure (?_ : wpAny _ _ (ret Value.none) _ _ _)
          refine wpAny_pure ⟨rfl, h', tk', rfl, hS', fun b o hb e => hm.heap b o ?_ (Heap.get?_push_of_some _ (Heap.get?_push_of_some _ e))⟩
          rw [hz]; simp only [List.mem_cons, List.not_mem_nil, or_false, not_or]; exact ⟨Nat.ne_of_lt hb, Nat.ne_of_lt (Nat.lt_succ_of_lt hb)⟩
      · cases r₂ with
        | error e => exact hr₂
        | ok fl₂ =>
          cases fl₂ with
          | ret r =>
            obtain ⟨rfl, h', tk, rfl, hS', hk'⟩ := hr₂
            repeat (any_goals (first | assumption | wp_step))
            exact hq _ _ hS' hk'
          | _ => exact hr₂.elim
    | _ => exact hr.elim
end
end PW

set_option Elab.async false
set_option linter.all false
set_option autoImplicit false
set_option maxRecDepth 100000
set_option maxHeartbeats 4000000
set_option synthInstance.maxHeartbeats 2000000
set_option synthInstance.maxSize 1000000
namespace PW
open PySem PySem.Spec PyProof.Rows L2
section
variable {P : Program} {w : World} {A : Around} {E : Value → Shared → Prop} {s : Shared} {a : Addr}
abbrev IsTx : Value → Str → Prop := fun v k => ∃ t, v = .str k t
theorem txE_each : ∀ {l : List (Int × Value)}, (∀ e ∈ l, TxE w e) → PySem.W.EachIs IsTx (l.map (·.2)) (l.map txK)
  | [], _ => .nil
  | e :: l, g => .cons (by
      obtain ⟨k, tk, h1, _⟩ := g e List.mem_cons_self
      exact ⟨tk, by show e.2 = _; unfold txK; rw [h1]⟩) (txE_each fun e' he => g e' (List.mem_cons_of_mem _ he))
theorem each_perm {vs us : List Value} (p : vs.Perm us) : ∀ {bs : List Str}, PySem.W.EachIs IsTx us bs → ∃ cs, cs.Perm bs ∧ PySem.W.EachIs IsTx vs cs := by
  induction p with
  | nil => intro bs h; exact ⟨bs, .refl _, h⟩
  | cons x _ ih =>
    intro bs h
    cases h with
    | cons r t =>
      obtain ⟨cs, hp, hc⟩ := ih t
      exact ⟨_ :: cs, hp.cons _, .cons r hc⟩
  | swap x y l =>
    intro bs h
    cases h with
    | cons r t =>
      cases t with
      | cons r2 t2 => exact ⟨_ :: _ :: _, .swap _ _ _, .cons r2 (.cons r t2)⟩
  | trans _ _ ih1 ih2 =>
    intro bs h
    obtain ⟨cs, hp, hc⟩ := ih2 h
    obtain ⟨ds, hp2, hd⟩ := ih1 hc
    exact ⟨ds, hp2.trans hp, hd⟩
abbrev leT (x y : Str) : Bool := PySem.W.dataLe false PyData.str x y
/-- sorted(a set of texts) -/
theorem sortX {xs : List Str} {Q : Value → Shared → Prop} (G : GotX w s.heap a xs) (hh : A.handled = none) (hu : A.units + 8 < cLine)
    (hQ : ∀ (s' : Shared) (p : Addr) (out : Array Value) (c : Nat) (bs : List Str), (∀ b o, s.heap.get? b = some o → s'.heap.get? b = some o) → s'.gens = s.gens → s'.os = s.os → s.heap.objs.size ≤ p →
      s'.heap.get? p = some (seqObj "list" out c) → PySem.W.EachIs IsTx out.toList bs → bs.Nodup → (∀ k, k ∈ bs ↔ k ∈ xs) → bs.Pairwise (fun x y => leT x y = true) → bs.length < scanBound → Q (.ref p) s') :
    wpAny (model P w) A (call (.builtin "sorted") [.ref a]) Q E s := by
  obtain ⟨ks, k1, k2, k3, o, es, ep, t, ho, hex, hd, g, pm0, hb, hf, hr, hl⟩ := G
  refine Calls.call_function_entry kind_sorted plain_sorted entry_sorted (args_sorted1 _) ?_
  unfold Builtin.«sorted»
  refine wpAny_bind (m := checkCount "sorted" 1 1 _) (wpAny_pure ?_)
  refine wpAny_bind (collect_set (A := A.in1) hh ⟨o, ho, hex.1, hd⟩ hf hb hr hl fun s1 vs hk1 hz g1 o1 pm => ?_)
  obtain ⟨bs, hpb, heb⟩ := each_perm pm (txE_each g)
  have pk : bs.Perm ks := hpb.trans pm0
  have hlen : bs.length = vs.length := heb.length.symm
  have hbl : bs.length < scanBound := by have := pm0.length_eq; have := pk.length_eq; simp at *; omega
  have hsl : vs.length ≤ sizeLine := by rw [sizeLine_eq, ← hlen]; unfold scanBound at hbl; omega
  refine wpAny_bind (wpAny_newList ?_ hsl)
  have hoL : (s1.heap.push (seqObj "list" vs.toArray 0)).get? s1.heap.objs.size = some (seqObj "list" vs.toArray 0) := Heap.get?_push_size _ rfl
  refine wpAny_bind (wpAny_holding (PySem.W.list_sort_data (R := IsTx) (enc := PyData.str) (bs := bs) (vs := vs) hoL heb (heb.mono fun v k ⟨t, e⟩ => ⟨[], by rw [e]; exact .str k t, by simp⟩)
    (PySem.W.AllAlike.of fun _ _ => rfl) (PySem.W.Sortable.others fun _ => ⟨by simp, by simp⟩) (by rw [hlen]; exact hsl) (fun b _ => ?_) fun out hol heo => ?_))
  · have e1 : A.in1.units ≤ A.units + 1 := by
      show A.in1.units ≤ _
      first | (simp [Around.in1]; done) | (unfold Around.in1; dsimp only; omega)
    show A.in1.units + 1 + 0 < cLine
    omega
  · obtain ⟨c, hc⟩ := sortedHeap_at (vs := vs) (out := out.toArray) hoL
    have T : PySem.W.TotalLe leT := PySem.W.sortLe_total (PyProof.Rows.listOrd PyProof.Rows.itemOrd) false (fun k : Str => PySem.W.keyToks (PyData.str k))
    have pms := List.mergeSort_perm bs leT
    refine wpAny_pure ⟨_, rfl, hQ { s1 with heap := sortedHeap (s1.heap.push (seqObj "list" vs.toArray 0)) s1.heap.objs.size vs out.toArray } s1.heap.objs.size out.toArray c (bs.mergeSort leT) (fun b u e => ?_) g1 o1 hz hc heo (pms.nodup_iff.mpr (pk.nodup_iff.mpr k1)) (fun k => by rw [pms.mem_iff, pk.mem_iff, k2])
      (List.pairwise_mergeSort T.trans (fun a b => by rcases T.total a b with h | h <;> simp [h]) bs) (by rw [pms.length_eq]; exact hbl)⟩
    have q := hk1 b u e
    have hlt := Heap.lt_size q
    show (sortedHeap (s1.heap.push (seqObj "list" vs.toArray 0)) s1.heap.objs.size vs out.toArray).get? b = some u
    rw [sortedHeap_old (Nat.ne_of_lt hlt) (by rw [size_push']; exact Nat.lt_succ_of_lt hlt)]
    exact Heap.get?_push_of_some _ q
end
/-! ### sorted(set(e)), e a list of texts -/
def txD (d : D) : Str := match d with
  | .str l => mkS l
  | _ => Str.empty
def allTx (l : List D) : Prop := ∀ d ∈ l, ∃ s, d = .str s
/-- any list with the same members, each once, that rises -/
def SetSort (l m : List D) : Prop := m.Nodup ∧ (∀ d, d ∈ m ↔ d ∈ l) ∧ m.Pairwise (fun x y => leD x y = true)
def wSortSet (x : D) (Q : B → Prop) : Prop := match x with
  | .lst l => (allTx l ∧ l.length < 4000) ∧ ∀ m, SetSort l m → m.length ≤ l.length → Q (.own (.lst m))
  | _ => False
def rSetSort (K : PySem.W.Frag) : V → Hp → VK → Prop := fun x H Q => ∃ (l : Addr) (xs : List Str), x = V.ref l ∧ SqL K H l (xs.map V.str) ∧ xs.length < 4000 ∧
  ∀ (p : Addr) (bs : List Str), H p = none → bs.Nodup → (∀ k, k ∈ bs ↔ k ∈ xs) → bs.Pairwise (fun x y => leT x y = true) → bs.length < scanBound → Q (.ref p) (upd H p (.lst (bs.map V.str)))
def tSortSet (K : PySem.W.Frag) (ta : TE) : TE := fun σ H Q => ta σ H fun x H1 => rSetSort K x H1 Q
theorem isTx_vals : ∀ {us : List Value} {bs : List Str}, PySem.W.EachIs IsTx us bs → Vals (bs.map V.str) us
  | _, _, .nil => .nil
  | _, _, .cons r t => .cons r (isTx_vals t)
section
variable {X : Cx}
theorem pe_sortSet {a : Expr} {ta : TE} {p p2 q pos : Pos} (hc : X.calm = true) (hu : X.A.units + 70 < cLine) (hg : Gl X "sorted") (hm : X.mg "sorted" = none) (hb : bootBuiltins "sorted" = some (.builtin "sorted")) (hg2 : Gl X "set") (hm2 : X.mg "set" = none) (hb2 : bootBuiltins "set" = some (.type "set")) (ha : PE X a ta)
    (na : starEach [a] X.env = (false, eval a X.env) :: starEach [] X.env := by rfl) : PE X (.Call (.Name "sorted" p) [.Call (.Name "set" p2) [a] [] q] [] pos) (tSortSet X.K ta) := by
  refine ⟨fun pins s σ H Q I h => ?_⟩
  refine Call_ (ld_blt I hg hm hb (PyProof.Rows.callWith_builtin1 (PyProof.Rows.args_cons ?_ rfl) rfl rfl))
  refine Call_ (ld_blt I hg2 hm2 hb2 (PyProof.Rows.callWith_type1 (PyProof.Rows.args_cons (thn (ha.run pins s σ H _ I h) fun v s1 ⟨x, H1, I1, r1, q1⟩ => PyProof.Rows.args_nil ?_) na) na rfl))
  obtain ⟨l, xs, rfl, hq, h1, q1⟩ := q1
  cases r1
  obtain ⟨its, r, pl, hz⟩ := I1.list hq
  refine setX_list (P := X.prog) (w := X.w) (xs := xs) (I1.ok.hd hc) pl.isList (by simpa using r) (by unfold scanBound; omega) fun h' tk G hk => PyProof.Rows.args_nil ?_
  have I2 : Inv X pins σ H1 { s1 with heap := h', toks := tk } := I1.kept fun b o e => hk b o (Heap.lt_size e) e
  have G2 : GotX X.w ({ s1 with heap := h', toks := tk } : Shared).heap s1.heap.objs.size xs := G
  generalize ({ s1 with heap := h', toks := tk } : Shared) = s2 at I2 G2 ⊢
  refine sortX (s := s2) G2 (I1.ok.hd hc) (by omega) fun s' p out c bs k g o hp hg he nd mem pw hlt => ?_
  have hn : H1 p = none := I2.hok.fresh hp
  have hlen : (bs.map V.str).length ≤ sizeLine := by rw [List.length_map, sizeLine_eq]; unfold scanBound at hlt; omega
  have J : Inv X pins σ (upd H1 p (.lst (bs.map V.str))) { s2 with heap := s'.heap, gens := s'.gens, drawn := s'.drawn, toks := s'.toks } :=
    I2.call (ch := []) (Un.laid k hp hn) (I2.hok.laid k hp ⟨hlen, out.toList, c, isTx_vals he, hg⟩) (by rw [g]; exact I2.bare) (fun _ z => nomatch z)
  have e : s' = { s2 with heap := s'.heap, gens := s'.gens, drawn := s'.drawn, toks := s'.toks } := by
    obtain ⟨a1, a2, a3, a4, a5⟩ := s'; cases o; rfl
  rw [e]
  exact ⟨.ref p, _, J, rfl, q1 p bs hn nd mem pw hlt⟩
end
theorem nodup_len {α : Type} [DecidableEq α] : ∀ {l m : List α}, l.Nodup → (∀ x ∈ l, x ∈ m) → l.length ≤ m.length
  | [], _, _, _ => Nat.zero_le _
  | x :: l, m, h, s => by
    obtain ⟨h1, h2⟩ := List.nodup_cons.mp h
    have hx := s x List.mem_cons_self
    have ih := nodup_len (m := m.erase x) h2 fun y hy => (List.mem_erase_of_ne (fun (e : y = x) => h1 (by rw [← e]; exact hy))).mpr (s y (List.mem_cons_of_mem _ hy))
    rw [List.length_erase_of_mem hx] at ih
    have := List.length_pos_of_mem hx
    rw [List.length_cons]
    omega
def unS (k : Str) : D := .str k.cps.toList
theorem unS_mk (k : Str) : mkS k.cps.toList = k := by cases k; rfl
theorem unS_inj {a b : Str} (h : unS a = unS b) : a = b := by
  have e : a.cps.toList = b.cps.toList := by injection h
  rw [← unS_mk a, e, unS_mk]
theorem allTx_of : ∀ {l : List D}, allTx l → ∃ xs : List Str, l = xs.map unS
  | [], _ => ⟨[], rfl⟩
  | d :: l, h => by
    obtain ⟨s, rfl⟩ := h d List.mem_cons_self
    obtain ⟨xs, rfl⟩ := allTx_of fun e he => h e (List.mem_cons_of_mem _ he)
    exact ⟨mkS s :: xs, rfl⟩
theorem leD_unS (a b : Str) : leD (unS a) (unS b) = leT a b := by
  show PySem.W.dataLe false D.py _ _ = PySem.W.dataLe false PyData.str _ _
  rw [PySem.W.dataLe_eq, PySem.W.dataLe_eq]
  have e : ∀ k, (unS k).py = PyData.str k := fun k => by unfold unS; simp only [D.py]; try rw [unS_mk]
  simp only [e]
section
variable {K : PySem.W.Frag}
theorem repl_unS {F : Hp} : ∀ {vs : List V} {xs : List Str}, RepL K F vs (xs.map unS) → vs = xs.map V.str
  | [], [], _ => rfl
  | v :: vs, x :: xs, h => by
    cases h with
    | cons a b =>
      have := repl_unS b
      subst this
      unfold unS at a
      cases a
      rw [unS_mk, List.map_cons]
  | [], _ :: _, h => by cases h
  | _ :: _, [], h => by cases h
theorem unS_repl {F : Hp} : ∀ xs : List Str, RepL K F (xs.map V.str) (xs.map unS)
  | [] => .nil
  | x :: xs => .cons (by have := Rep.str (K := K) (F := F) x.cps.toList; rw [unS_mk] at this; exact this) (unS_repl xs)
theorem k_sortSet : Op1Ok K (rSetSort K) wSortSet := by
  intro O G F σ H E x dx Q Q' r hx q k
  cases dx with
  | lst l =>
    obtain ⟨⟨al, l4⟩, q⟩ := q
    obtain ⟨xs, rfl⟩ := allTx_of al
    obtain ⟨a, vs, rfl, h1, p⟩ := hx.lst r.f
    obtain rfl := repl_unS p
    refine ⟨a, xs, rfl, SqL.of h1, by rw [List.length_map] at l4; exact l4, fun c bs hc nd mem pw hlt => ?_⟩
    refine k _ _ (.lst r hc (ds := bs.map unS) (unS_repl bs) (q _ ⟨?_, ?_, ?_⟩ ?_))
    · exact List.Pairwise.map _ (fun a b hne e => hne (unS_inj e)) nd
    · intro d
      rw [List.mem_map, List.mem_map]
      exact ⟨fun ⟨y, hy, e⟩ => ⟨y, (mem y).mp hy, e⟩, fun ⟨y, hy, e⟩ => ⟨y, (mem y).mpr hy, e⟩⟩
    · exact List.Pairwise.map _ (fun a b h => by rw [leD_unS]; exact h) pw
    · rw [List.length_map, List.length_map]
      exact nodup_len nd fun y hy => (mem y).mp hy
  | _ => exact (show False from q).elim
end
section
variable {X : Cx}
theorem ed_sortSet {a : Expr} {wo : WO} {p p2 q pos : Pos} (hc : X.calm = true) (hu : X.A.units + 70 < cLine) (hg : Gl X "sorted") (hm : X.mg "sorted" = none) (hb : bootBuiltins "sorted" = some (.builtin "sorted")) (hg2 : Gl X "set") (hm2 : X.mg "set" = none) (hb2 : bootBuiltins "set" = some (.type "set")) (ha : OD X a wo)
    (na : starEach [a] X.env = (false, eval a X.env) :: starEach [] X.env := by rfl) : ED X (.Call (.Name "sorted" p) [.Call (.Name "set" p2) [a] [] q] [] pos) (wUn wSortSet wo) :=
  ed_of (pe_sortSet hc hu hg hm hb hg2 hm2 hb2 ha na) (ok_un k_sortSet)
end
section
variable {P : B → Prop} {l : List D} {ss : List (List Nat)} {RM : List D → Prop}
instance [e : ∀ m, Ev (P (.own (.lst m))) (RM m)] : Ev (wSortSet (.lst l) P) ((allTx l ∧ l.length < 4000) ∧ ∀ m, SetSort l m → m.length ≤ l.length → RM m) := ⟨fun h => ⟨h.1, fun m hm hl => (e m).h (h.2 m hm hl)⟩⟩
end
end PW

set_option Elab.async false
set_option linter.all false
set_option autoImplicit false
set_option maxRecDepth 100000
set_option maxHeartbeats 4000000
set_option synthInstance.maxHeartbeats 2000000
set_option synthInstance.maxSize 1000000
set_option exponentiation.threshold 5000
namespace PW
open PySem PySem.Spec PyProof.Rows L2
local macro_rules | `(tactic| walk_at "sta") => `(tactic| with_reducible repeat (first | exact StaR.z | apply StaR.c | apply StaR.n))
local macro_rules | `(tactic| walk_at "start") => `(tactic| with_reducible first | refine LF2 (by walk_at "sta") ?_ | refine LF1 (by walk_at "sta") ?_ | refine LF3 (by walk_at "sta") ?_ | refine LF4 (by walk_at "sta") ?_ | refine LF0 (by walk_at "sta") ?_ | refine LF5 (by walk_at "sta") ?_ | refine LF6 (by walk_at "sta") ?_ | refine LP0 (by walk_at "sta") ?_ | refine LP1 (by walk_at "sta") ?_ | refine LP2 (by walk_at "sta") ?_ | refine LP3 (by walk_at "sta") ?_)
/-! ### systems of words -/
abbrev Wo := List Nat
abbrev Sy := List (Wo × Wo)
def enc (q : Wo × Wo) : D := .tup [.str q.1, .str q.2]
abbrev sysD (S : Sy) : D := .lst (S.map enc)
def abc (w : Wo) : Prop := ∀ c ∈ w, c = 97 ∨ c = 98 ∨ c = 99
theorem abc.ok {w : Wo} (h : abc w) : okS w := fun c hc => by rcases h c hc with e | e | e <;> subst e <;> decide
theorem abc_app {a b : Wo} (h : abc a) (h' : abc b) : abc (a ++ b) := fun c hc => by
  rcases List.mem_append.mp hc with z | z
  · exact h c z
  · exact h' c z
def SyF (mx : Nat) (S : Sy) : Prop := ∀ q ∈ S, 1 ≤ q.1.length ∧ q.1.length ≤ mx ∧ q.2.length ≤ q.1.length ∧ abc q.1 ∧ abc q.2
def LtOk (ss : List Wo) : Prop := ss ≠ [] ∧ ss.length ≤ 10 ∧ ∀ s ∈ ss, s.length = 1 ∧ abc s
def one1 (w : Wo) (q : Wo × Wo) (at_ : Nat) : Option Wo := if (w.drop at_).take q.1.length = q.1 then some (w.take at_ ++ q.2 ++ w.drop (at_ + q.1.length)) else none
def cand1 (w : Wo) (q : Wo × Wo) : List Wo := (List.range (w.length + 1 - q.1.length)).filterMap (one1 w q)
def cand (S : Sy) (w : Wo) : List Wo := S.flatMap (cand1 w)
def f__law_word : D → D → D → (B → D → Prop) → Prop := fun p m L P => isPool p ∧ ∃ (n : Nat) (ss : List Wo), m = .int n ∧ n ≤ 10 ∧ L = .lst (ss.map D.str) ∧ LtOk ss ∧ ∀ s d', s.length ≤ n → abc s → (∀ c ∈ s, [c] ∈ ss) → isPool d' → P (.dat (.str s)) d'
def f__law_system : D → D → D → (B → D → Prop) → Prop := fun p m k P => isPool p ∧ ∃ n mx : Nat, m = .int n ∧ n ≤ 10 ∧ k = .int mx ∧ 1 ≤ mx ∧ mx ≤ 4 ∧ ∀ S d', SyF mx S → S.length ≤ n → isPool d' → P (.own (sysD S)) d'
def f__law_steps : D → D → (B → Prop) → Prop := fun s a P => ∃ S w, s = sysD S ∧ a = .str w ∧ SyF 4 S ∧ S.length ≤ 10 ∧ w.length ≤ 40 ∧ ∀ L : List Wo, (∀ x, x ∈ L ↔ x ∈ cand S w) → L.Nodup → L.length ≤ 500 → P (.own (.lst (L.map D.str)))
def N__law_word : Nat := 5
-- 0:pool 1:most 2:letters 3:text 4:k
def w__law_word : WS :=
  (sSeq (sSet 3 (wC (.str [])))
  (sSeq (sFor (iR1 (wCallP 0 (ps1 f__law_draw) (aC (wOp wAdd (oV 1) (oE (wC (.int 1)))) aN))) (gN 4) (sSet 3 (wOp wAdd (oV 3) (oE (wCallP 0 (ps1 f__law_pick) (aC (wV 2) aN))))))
  (sRet (wM 3))))
def N__law_system : Nat := 8
-- 0:pool 1:many 2:most 3:letters 4:found 5:k 6:left 7:right
def w__law_system : WS :=
  (sSeq (sSet 3 (wCallP 0 (ps1 f__law_pick) (aC (wLst (aC (wLst (aC (wC (.str [97])) (aC (wC (.str [98])) aN))) (aC (wLst (aC (wC (.str [97])) (aC (wC (.str [98])) aN))) (aC (wLst (aC (wC (.str [97])) (aC (wC (.str [98])) (aC (wC (.str [99])) aN)))) (aC (wLst (aC (wC (.str [97])) aN)) aN))))) aN)))
  (sSeq (sSet 4 (wLst aN))
  (sSeq (sFor (iR1 (wV 1)) (gN 5) (sSeq (sExpr (wCallP 0 (ps0 f__law_next) aN))
  (sSeq (sSet 6 (wOp wAdd (oE (wCallP 0 (ps1 f__law_pick) (aC (wV 3) aN))) (oE (wCallP 0 (ps2 f__law_word) (aC (wOp wSub (oV 2) (oE (wC (.int 1)))) (aC (wV 3) aN))))))
  (sSeq (sSet 7 (wCallP 0 (ps2 f__law_word) (aC (wUn wLen (oV 6)) (aC (wV 3) aN))))
  (sJ (sIf (wTst (wOp wGt (oE (wTup (aC (wUn wLen (oV 7)) (aC (wV 7) aN)))) (oE (wTup (aC (wUn wLen (oV 6)) (aC (wV 6) aN)))))) (sPar 6 7 (aC (wV 7) (aC (wV 6) aN))) sNext)
  (sIf (wAnd (wTst (wOp wNe (oV 6) (oV 7))) (wTst (wOp wNin (oE (wTup (aC (wV 6) (aC (wV 7) aN)))) (oV 4)))) (sExpr (wMut1 "list" 4 mAppend (wTup (aC (wV 6) (aC (wV 7) aN))))) sNext))))))
  (sRet (wUn wSorted (oV 4))))))
def N__law_steps : Nat := 7
-- 0:system 1:word 2:found 3:left 4:right 5:at 6:there
def w__law_steps : WS :=
  (sSeq (sSet 2 (wLst aN))
  (sSeq (sFor (iS (wV 0)) (gT 2 (gsC (gN 3) (gsC (gN 4) gsN))) (sFor (iR1 (wOp wAdd (oE (wOp wSub (oE (wUn wLen (oV 1))) (oE (wUn wLen (oV 3))))) (oE (wC (.int 1))))) (gN 5) (sIf (wTst (wOp wEq (oE (wSlice (oV 1) (pS (wV 5)) (pS (wOp wAdd (oV 5) (oE (wUn wLen (oV 3))))))) (oV 3))) (sSeq (sSet 6 (wOp wAdd (oE (wOp wAdd (oE (wSlice (oV 1) pN (pS (wV 5)))) (oV 4))) (oE (wSlice (oV 1) (pS (wOp wAdd (oV 5) (oE (wUn wLen (oV 3))))) pN))))
  (sIf (wTst (wOp wNin (oV 6) (oV 2))) (sExpr (wMut1 "list" 2 mAppend (wV 6))) sNext)) sNext)))
  (sRet (wM 2))))
theorem mem_cand_take {S : Sy} {w x : Wo} {i : Nat} {q : Wo × Wo} (h : S[i]? = some q) : x ∈ cand (S.take (i + 1)) w ↔ x ∈ cand (S.take i) w ∨ x ∈ cand1 w q := by
  unfold cand
  rw [take_snoc h, List.flatMap_append, List.mem_append]
  simp
theorem range_snoc (n : Nat) : List.range (n + 1) = List.range n ++ [n] := List.range_succ
def candN (w : Wo) (q : Wo × Wo) (n : Nat) : List Wo := (List.range n).filterMap (one1 w q)
theorem mem_candN {w x : Wo} {q : Wo × Wo} {n : Nat} : x ∈ candN w q (n + 1) ↔ x ∈ candN w q n ∨ one1 w q n = some x := by
  unfold candN
  rw [List.range_succ, List.filterMap_append, List.mem_append]
  simp [List.filterMap_cons]
  constructor
  · rintro (h | h)
    · exact .inl h
    · right
      cases e : one1 w q n with
      | none => rw [e] at h; simp at h
      | some y => rw [e] at h; simp at h; rw [h]
  · rintro (h | h)
    · exact .inl h
    · right; rw [h]; simp
theorem cut_piece (w : Wo) {a b : Int} (ha : 0 ≤ a) (hb : 0 ≤ b) : cut w (some a) (some (a + b)) = (w.drop a.toNat).take b.toNat := by
  rw [cut_mid w ha (by omega)]
  congr 1
  omega
theorem map_get {α : Type} {l : List α} {f : α → D} {i : Nat} {d : D} (h : (l.map f)[i]? = some d) : ∃ x, l[i]? = some x ∧ d = f x := by
  rw [List.getElem?_map] at h
  cases e : l[i]? with
  | none => rw [e] at h; cases h
  | some x => rw [e] at h; exact ⟨x, rfl, (Option.some.inj h).symm⟩
theorem piece_eq (o l : Wo) (j : Nat) : cut o (some (0 + (j : Int))) (some (0 + (j : Int) + ((List.length l : Nat) : Int))) = (o.drop j).take l.length := by
  rw [cut_piece o (by omega) (by omega)]
  congr 1 <;> simp
theorem front_eq (o : Wo) (j : Nat) : cut o none (some (0 + (j : Int))) = o.take j := by
  rw [cut_to o (by omega)]; congr 1; simp
theorem back_eq (o l : Wo) (j : Nat) : cut o (some (0 + (j : Int) + ((List.length l : Nat) : Int))) none = o.drop (j + l.length) := by
  rw [cut_from o (by omega)]; congr 1; omega
theorem cand_bound {w : Wo} {q : Wo × Wo} : ((w.length : Int) - ((List.length q.1 : Nat) : Int) + 1).toNat = w.length + 1 - q.1.length := by omega
theorem law__law_steps : ∀ a0 a1 Pp, f__law_steps a0 a1 Pp → LF N__law_steps w__law_steps [a0, a1] Pp := by
  rintro a0 a1 Pp ⟨S, o, rfl, rfl, hS, h10, ho, k⟩
  unfold N__law_steps w__law_steps sysD
  walk_at "start"
  refine ev_ ?_
  refine x_forK (fun i E => ∃ z3 z4 z5 z6, ∃ L : List Wo, E = [some (.dat (.lst (S.map enc))), some (.dat (.str o)), some (.own (.lst (L.map D.str))), z3, z4, z5, z6] ∧ (∀ x, x ∈ L ↔ x ∈ cand (S.take i) o) ∧ L.Nodup ∧ L.length ≤ 45 * i) ⟨_, _, _, _, [], rfl, by simp [cand], .nil, by simp⟩ ?_ ?_
  · rintro i d E hi ⟨z3, z4, z5, z6, L, rfl, hL, nd, hl⟩
    obtain ⟨q, hq, rfl⟩ := map_get hi
    have hq2 := hS q (List.mem_of_getElem? hq)
    have h1 := ho
    have h2 := hq2.2.1
    have h3 := hq2.2.2.1
    have hi10 := (List.getElem?_eq_some_iff.mp hq).1
    rw [show enc q = .tup [.str q.1, .str q.2] from rfl]
    refine ev_ ⟨by omega, by omega, by omega, ?_⟩
    refine x_forK (fun j E => ∃ z5 z6, ∃ L : List Wo, E = [some (.dat (.lst (S.map enc))), some (.dat (.str o)), some (.own (.lst (L.map D.str))), some (.dat (.str q.1)), some (.dat (.str q.2)), z5, z6] ∧ (∀ x, x ∈ L ↔ x ∈ cand (S.take i) o ∨ x ∈ candN o q j) ∧ L.Nodup ∧ L.length ≤ 45 * i + j) ⟨_, _, L, rfl, by simp [candN, hL], nd, by omega⟩ ?_ ?_
    · rintro j d E hj ⟨z5, z6, L, rfl, hL, nd, hl⟩
      obtain ⟨hlt, rfl⟩ := rng_get hj
      refine ev_ ⟨by omega, by omega, ?_⟩
      rw [piece_eq]
      refine x_iteD (fun e1 => ?_) (fun e1 => ?_)
      · refine ev_ ⟨by omega, ?_⟩
        rw [front_eq, back_eq]
        have hl2 : (o.take j).length + q.2.length ≤ 50 := by rw [List.length_take]; omega
        refine ⟨by omega, by omega, by omega, by rw [List.length_append, List.length_drop]; omega, ?_⟩
        refine ⟨.inl ⟨rfl, by simp [List.all_eq_true, flatD]⟩, ?_⟩
        have ee : ∀ x, one1 o q j = some x ↔ o.take j ++ q.2 ++ o.drop (j + q.1.length) = x := fun x => by
          unfold one1
          rw [if_pos e1]; simp
        rw [anyD_map eqS]
        refine ev_iteN (fun e2 => ?_) (fun e2 => ?_)
        · refine ⟨by rw [List.length_map]; omega, _, _, L ++ [o.take j ++ q.2 ++ o.drop (j + q.1.length)], by rw [List.map_append]; rfl, fun x => ?_, List.nodup_append.mpr ⟨nd, by simp, fun x hx y hy e => e2 (by rw [List.mem_singleton.mp hy] at e; rw [← e]; exact hx)⟩, by rw [List.length_append]; simp; omega⟩
          rw [List.mem_append, hL, mem_candN, ee, List.mem_singleton, or_assoc, eq_comm (a := x)]
        · refine ⟨_, _, L, rfl, fun x => ?_, nd, by omega⟩
          rw [hL, mem_candN, ee]
          constructor
          · rintro (h | h)
            · exact .inl h
            · exact .inr (.inl h)
          · rintro (h | h | h)
            · exact .inl h
            · exact .inr h
            · subst h; exact (hL _).mp e2
      · refine ev_ ⟨_, _, L, rfl, fun x => ?_, nd, by omega⟩
        rw [hL, mem_candN]
        have : ¬ one1 o q j = some x := fun h => by
          unfold one1 at h
          rw [if_neg e1] at h
          cases h
        simp [this]
    · rintro E ⟨z5, z6, L, rfl, hL, nd, hl⟩
      rw [rng_len, cand_bound] at hL hl
      refine ⟨_, _, _, _, L, rfl, fun x => ?_, nd, by omega⟩
      rw [mem_cand_take hq, hL]; rfl
  · rintro E ⟨z3, z4, z5, z6, L, rfl, hL, nd, hl⟩
    rw [List.length_map] at hL hl
    rw [List.take_length] at hL
    exact ev_ (k L hL nd (by omega))
theorem law__law_word : ∀ p a0 a1 a2 Pp, f__law_word a0 a1 a2 Pp → LP N__law_word w__law_word p a0 [a1, a2] Pp := by
  rintro p a0 a1 a2 Pp ⟨hp, n, ss, rfl, hn, rfl, ⟨s1, s2, s3⟩, k⟩
  unfold N__law_word w__law_word
  walk_at "start"
  refine ev_ ⟨hp, ⟨by omega, by omega⟩, fun v d' v0 v1 hd => ⟨by omega, ?_⟩⟩
  refine x_forK (fun i E => ∃ z4 t d', E = [some (.par p d'), some (.dat (.int n)), some (.dat (.lst (ss.map D.str))), some (.dat (.str t)), z4] ∧ isPool d' ∧ t.length ≤ i ∧ abc t ∧ ∀ c ∈ t, [c] ∈ ss) ⟨_, [], _, rfl, hd, by simp, (fun c h => by cases h), (fun c h => by cases h)⟩ ?_ ?_
  · rintro i d E hi ⟨z4, t, d', rfl, hd, ht, ha, hc⟩
    obtain ⟨hlt, rfl⟩ := rng_get hi
    refine ev_ ⟨hd, ⟨s1, by omega⟩, fun s d2 hs hd2 => ⟨by rw [(s3 s hs).1]; omega, _, t ++ s, _, rfl, hd2, by rw [List.length_append, (s3 s hs).1]; omega, abc_app ha (s3 s hs).2, fun c hm => ?_⟩⟩
    rcases List.mem_append.mp hm with z | z
    · exact hc c z
    · have h1 := (s3 s hs).1
      match s, h1, z with
      | [d], _, z => rw [List.mem_singleton.mp z]; exact hs
  · rintro E ⟨z4, t, d', rfl, hd, ht, ha, hc⟩
    rw [rng_len] at ht
    exact ev_ (k _ _ (by omega) ha hc hd)
theorem sys_sort (S : Sy) : (S.map enc).mergeSort leD = (S.mergeSort fun a b => leD (enc a) (enc b)).map enc := (List.map_mergeSort (f := enc) (r := fun a b => leD (enc a) (enc b)) (s := leD) (fun a _ b _ => rfl)).symm
theorem enc_ok {q : Wo × Wo} (h : okS q.1 ∧ okS q.2) : okN 1 (enc q) := okN_tup (all_cons (okN_str h.1) (all_cons (okN_str h.2) all_nil))
theorem sys_sortOk {S : Sy} (h : ∀ q ∈ S, okS q.1 ∧ okS q.2) : sortOk (S.map enc) := by
  refine ⟨fun d hd => ?_, ?_, ?_⟩
  · obtain ⟨q, hq, rfl⟩ := List.mem_map.mp hd
    exact (enc_ok (h q hq)).ok
  · rw [List.map_map]
    exact PySem.W.AllAlike.of fun _ _ => by simp [enc, D.py, D.pys, PySem.W.alike, PySem.W.alikeAll]
  · rw [List.map_map]
    exact PySem.W.Sortable.tuples fun b => ⟨_, _, by simp [enc, D.py, D.pys]; exact ⟨rfl, rfl⟩⟩
theorem lt_pair {a b : Int} {s t : Wo} (h : ltD (.tup [.int a, .str s]) (.tup [.int b, .str t]) = true) : a ≤ b := by
  have h' : PySem.W.dataLt (.tuple [.int a, .str (mkS s)]) (.tuple [.int b, .str (mkS t)]) = true := by
    have := h; simpa [ltD, D.py, D.pys] using this
  rw [PySem.W.dataLt_pair rfl rfl] at h'
  have e1 : PyData.eqv (.int a) (.int b) = decide (a = b) := by have := eqD_int a b; simpa [eqD, D.py] using this
  rw [e1] at h'
  by_cases hab : a = b
  · omega
  · rw [decide_eq_false hab] at h'
    have h2 : PySem.W.dataLt (.int a) (.int b) = true := by simpa using h'
    have e2 : PySem.W.dataLt (.int a) (.int b) = decide (a < b) := by
      have := congrFun (congrFun (PySem.W.dataLe_int (fun x : Int => x)) b) a
      rw [PySem.W.dataLe_eq] at this
      have h3 : (!PySem.W.dataLt (.int a) (.int b)) = decide (b ≤ a) := this
      cases hh : PySem.W.dataLt (.int a) (.int b) <;> rw [hh] at h3
      · symm; rw [decide_eq_false_iff_not]; have := of_decide_eq_true h3.symm; omega
      · symm; rw [decide_eq_true_iff]; have := of_decide_eq_false h3.symm; omega
    rw [e2] at h2
    have := of_decide_eq_true h2
    omega
theorem law__law_system : ∀ p a0 a1 a2 Pp, f__law_system a0 a1 a2 Pp → LP N__law_system w__law_system p a0 [a1, a2] Pp := by
  rintro p a0 a1 a2 Pp ⟨hp, n, mx, rfl, hn, rfl, hm1, hm4, k⟩
  unfold N__law_system w__law_system
  walk_at "start"
  refine ev_ ⟨hp, ⟨by simp, by decide⟩, fun s d' hs hd => ?_⟩
  have hs : ∃ ss : List Wo, s = .lst (ss.map D.str) ∧ LtOk ss := by
    have ab : LtOk [[97], [98]] := ⟨by simp, by decide, by simp [abc]⟩
    simp only [List.mem_cons, List.not_mem_nil, or_false] at hs
    rcases hs with e | e | e | e
    · exact ⟨[[97], [98]], e, ab⟩
    · exact ⟨[[97], [98]], e, ab⟩
    · exact ⟨[[97], [98], [99]], e, by simp, by decide, by simp [abc]⟩
    · exact ⟨[[97]], e, by simp, by decide, by simp [abc]⟩
  obtain ⟨ss, rfl, hss⟩ := hs
  refine ⟨by omega, ?_⟩
  refine x_forK (fun i E => ∃ z5 z6 z7 d' S, E = [some (.par p d'), some (.dat (.int n)), some (.dat (.int mx)), some (.dat (.lst (ss.map D.str))), some (.own (.lst (S.map enc))), z5, z6, z7] ∧ isPool d' ∧ S.length ≤ i ∧ SyF mx S) ⟨_, _, _, _, [], rfl, hd, Nat.le_refl _, fun q h => by cases h⟩ ?_ ?_
  · rintro i d E hi ⟨z5, z6, z7, d', S, rfl, hd, hl, hS⟩
    obtain ⟨hlt, rfl⟩ := rng_get hi
    have l1 := hss.2.1
    refine ev_ ⟨hd, fun d1 hd1 => ⟨hd1, ⟨hss.1, by omega⟩, fun s1 d2 hs1 hd2 => ?_⟩⟩
    have w1 := hss.2.2 s1 hs1
    rw [show ((mx : Int) - 1) = ((mx - 1 : Nat) : Int) by omega]
    refine ⟨hd2, mx - 1, ss, rfl, by omega, rfl, hss, fun s2 d3 l2 a2 _ hd3 => ?_⟩
    have w11 := w1.1
    refine ev_ ⟨by omega, by rw [List.length_append]; omega, ?_⟩
    have w3 : 1 ≤ (s1 ++ s2).length ∧ (s1 ++ s2).length ≤ mx ∧ abc (s1 ++ s2) := ⟨by rw [List.length_append]; omega, by rw [List.length_append]; omega, abc_app w1.2 a2⟩
    refine ⟨hd3, (s1 ++ s2).length, ss, rfl, by have := w3.2.1; omega, rfl, hss, fun s4 d4 l4 a4 _ hd4 => ?_⟩
    generalize s1 ++ s2 = l at *
    obtain ⟨w31, w32, w33⟩ := w3
    refine ev_ ?_
    refine x_join (fun E => ∃ l r z, E = [some (.par p d4), some (.dat (.int n)), some (.dat (.int mx)), some (.dat (.lst (ss.map D.str))), some (.own (.lst (S.map enc))), z, some (.dat (.str l)), some (.dat (.str r))] ∧ 1 ≤ l.length ∧ l.length ≤ mx ∧ r.length ≤ l.length ∧ abc l ∧ abc r) (fun nx' hn => ?_) ?_
    · refine ev_ ⟨by omega, by omega, ⟨?_, ?_, ?_, rfl⟩, ?_⟩
      · exact (okN_tup (n := 0) (all_cons (okN_int _) (all_cons (okN_str a4.ok) all_nil))).ok
      · exact (okN_tup (n := 0) (all_cons (okN_int _) (all_cons (okN_str w33.ok) all_nil))).ok
      · simp [D.py, D.pys, PySem.W.alike, PySem.W.alikeAll]
      · refine ev_iteB (fun hlt => ?_) (fun _ => hn _ ⟨_, _, _, rfl, w31, w32, l4, w33, a4⟩)
        have hle := lt_pair hlt
        exact hn _ ⟨_, _, _, rfl, by omega, by omega, by omega, a4, w33⟩
    · rintro E ⟨l, r, z, rfl, b1, b2, b3, b4, b5⟩
      refine ev_ ?_
      refine ev_iteN (fun _ => ?_) (fun _ => ⟨_, _, _, _, _, rfl, hd4, by omega, hS⟩)
      refine ⟨.inr ⟨(okN_tup (n := 0) (all_cons (okN_str b4.ok) (all_cons (okN_str b5.ok) all_nil))).ok, (okN_lst (n := 1) fun d hd => ?_).ok⟩, ?_⟩
      · obtain ⟨q, hq, rfl⟩ := List.mem_map.mp hd
        exact enc_ok ⟨(hS q hq).2.2.2.1.ok, (hS q hq).2.2.2.2.ok⟩
      · refine ev_iteM (fun _ => ?_) (fun _ => ⟨_, _, _, _, _, rfl, hd4, by omega, hS⟩)
        refine ⟨by rw [List.length_map]; omega, _, _, _, _, S ++ [(l, r)], by rw [List.map_append]; rfl, hd4, by rw [List.length_append]; simp; omega, fun q hq => ?_⟩
        rcases List.mem_append.mp hq with h | h
        · exact hS q h
        · rw [List.mem_singleton] at h
          subst h; exact ⟨b1, b2, b3, b4, b5⟩
  · rintro E ⟨z5, z6, z7, d', S, rfl, hd, hl, hS⟩
    rw [rng_len] at hl
    refine ev_ ⟨sys_sortOk fun q hq => ⟨(hS q hq).2.2.2.1.ok, (hS q hq).2.2.2.2.ok⟩, ?_⟩
    rw [sys_sort]
    exact k _ _ (fun q hq => hS q (List.mem_mergeSort.mp hq)) (by rw [List.length_mergeSort]; omega) hd
end PW

set_option Elab.async false
set_option linter.all false
set_option autoImplicit false
set_option maxRecDepth 100000
set_option maxHeartbeats 4000000
namespace PW
open PySem PySem.Spec PyProof.Rows L2
/-! ### the order of texts, sorted lists of texts -/
theorem leD_tot : PySem.W.TotalLe leD := by
  have := PySem.W.sortLe_total (PyProof.Rows.listOrd PyProof.Rows.itemOrd) false (fun d : D => PySem.W.keyToks d.py)
  exact this
abbrev leW (a b : Wo) : Bool := leD (.str a) (.str b)
theorem leW_dec (a b : Wo) : leW a b = decide (a ≤ b) := by
  have h := congrFun (congrFun (PySem.W.dataLe_str (fun w : Wo => mkS w)) a) b
  have e : leW a b = PySem.W.dataLe false (fun w : Wo => PyData.str (mkS w)) a b := by
    show PySem.W.dataLe false D.py (.str a) (.str b) = _
    rw [PySem.W.dataLe_eq, PySem.W.dataLe_eq]; simp only [D.py]
  rw [e, h]
theorem leW_anti {a b : Wo} (h : leW a b = true) (h' : leW b a = true) : a = b := by
  rw [leW_dec, decide_eq_true_iff] at h h'
  exact List.le_antisymm h h'
theorem leW_tot (a b : Wo) : (leW a b || leW b a) = true := by
  rcases leD_tot.total (.str a) (.str b) with h | h <;> simp [leW, h]
theorem leW_trans (a b c : Wo) (h : leW a b = true) (h' : leW b c = true) : leW a c = true := leD_tot.trans _ _ _ h h'
def srtW (l : List Wo) : List Wo := l.mergeSort leW
theorem srtW_pw (l : List Wo) : (srtW l).Pairwise fun a b => leW a b = true := List.pairwise_mergeSort leW_trans leW_tot l
theorem srtW_mem {l : List Wo} {x : Wo} : x ∈ srtW l ↔ x ∈ l := List.mem_mergeSort
theorem srtW_nodup {l : List Wo} (h : l.Nodup) : (srtW l).Nodup := (List.mergeSort_perm l leW).nodup_iff.mpr h
theorem srt_eq {l m : List Wo} (hl : l.Nodup) (hm : m.Nodup) (h : ∀ x, x ∈ l ↔ x ∈ m) (pl : l.Pairwise fun a b => leW a b = true) (pm : m.Pairwise fun a b => leW a b = true) : l = m :=
  List.Perm.eq_of_pairwise (fun a b _ _ h1 h2 => leW_anti h1 h2) pl pm ((List.perm_ext_iff_of_nodup hl hm).mpr h)
theorem srtW_eq {l m : List Wo} (hl : l.Nodup) (hm : m.Nodup) (h : ∀ x, x ∈ l ↔ x ∈ m) : srtW l = srtW m :=
  srt_eq (srtW_nodup hl) (srtW_nodup hm) (fun x => by rw [srtW_mem, srtW_mem]; exact h x) (srtW_pw l) (srtW_pw m)
theorem sort_strs (l : List Wo) : (l.map D.str).mergeSort leD = (srtW l).map D.str := (List.map_mergeSort (f := D.str) (r := leW) (s := leD) (fun _ _ _ _ => rfl)).symm
def dd : List Wo → List Wo
  | [] => []
  | x :: l => if x ∈ dd l then dd l else x :: dd l
theorem dd_mem {x : Wo} : ∀ {l : List Wo}, x ∈ dd l ↔ x ∈ l
  | [] => Iff.rfl
  | y :: l => by
    have ih := dd_mem (x := x) (l := l)
    unfold dd
    split
    · rename_i h
      rw [ih, List.mem_cons]
      exact ⟨.inr, fun z => z.elim (fun e => by rw [e]; exact dd_mem.mp h) id⟩
    · rw [List.mem_cons, List.mem_cons, ih]
theorem dd_nodup : ∀ l : List Wo, (dd l).Nodup
  | [] => .nil
  | y :: l => by
    unfold dd
    split
    · exact dd_nodup l
    · rename_i h
      exact List.nodup_cons.mpr ⟨h, dd_nodup l⟩
/-- sorted(set(l)) -/
def sset (l : List Wo) : List Wo := srtW (dd l)
theorem sset_mem {l : List Wo} {x : Wo} : x ∈ sset l ↔ x ∈ l := by rw [sset, srtW_mem, dd_mem]
theorem sset_nodup (l : List Wo) : (sset l).Nodup := srtW_nodup (dd_nodup l)
theorem sset_pw (l : List Wo) : (sset l).Pairwise fun a b => leW a b = true := srtW_pw _
theorem allTx_strs (l : List Wo) : allTx (l.map D.str) := fun d hd => by
  obtain ⟨s, _, rfl⟩ := List.mem_map.mp hd
  exact ⟨s, rfl⟩
theorem str_inj {a b : Wo} (h : D.str a = D.str b) : a = b := by injection h
theorem setSort_strs {l : List Wo} {m : List D} (h : SetSort (l.map D.str) m) : m = (sset l).map D.str := by
  obtain ⟨h1, h2, h3⟩ := h
  have hm : ∃ m' : List Wo, m = m'.map D.str := by
    have : ∀ d ∈ m, ∃ s, d = .str s := fun d hd => allTx_strs l d ((h2 d).mp hd)
    clear h1 h2 h3
    induction m with
    | nil => exact ⟨[], rfl⟩
    | cons d m ih =>
      obtain ⟨s, e⟩ := this d List.mem_cons_self
      obtain ⟨m', e'⟩ := ih fun d hd => this d (List.mem_cons_of_mem _ hd)
      exact ⟨s :: m', by rw [e, e']; rfl⟩
  obtain ⟨m', rfl⟩ := hm
  congr 1
  have nd : m'.Nodup := by
    have := List.pairwise_map.mp h1
    exact this.imp fun hne e => hne (by rw [e])
  refine srt_eq nd (sset_nodup l) (fun x => ?_) (List.pairwise_map.mp h3) (sset_pw l)
  rw [sset_mem]
  have := h2 (.str x)
  rw [List.mem_map, List.mem_map] at this
  exact ⟨fun hx => by
    obtain ⟨y, hy, e⟩ := this.mp ⟨x, hx, rfl⟩
    rw [← str_inj e]; exact hy, fun hx => by
    obtain ⟨y, hy, e⟩ := this.mpr ⟨x, hx, rfl⟩
    rw [← str_inj e]; exact hy⟩
theorem sortOk_strs {l : List Wo} (h : ∀ s ∈ l, okS s) : sortOk (l.map D.str) := by
  refine ⟨fun d hd => ?_, ?_, ?_⟩
  · obtain ⟨s, hs, rfl⟩ := List.mem_map.mp hd
    exact okD_str (h s hs)
  · rw [List.map_map]
    exact PySem.W.AllAlike.of fun _ _ => by simp [D.py, PySem.W.alike]
  · rw [List.map_map]
    exact PySem.W.Sortable.others fun _ => ⟨by simp [D.py], by simp [D.py]⟩
/-! ### lists of texts, and their order -/
abbrev rowD (r : List Wo) : D := .lst (r.map D.str)
theorem alike_strs : ∀ xs ys : List Wo, PySem.W.alikeAll (D.pys (xs.map D.str)) (D.pys (ys.map D.str)) = true
  | [], _ => by simp [PySem.W.alikeAll, D.pys]
  | _ :: _, [] => by simp [PySem.W.alikeAll, D.pys]
  | x :: xs, y :: ys => by
    have := alike_strs xs ys
    simp only [List.map_cons, D.pys, PySem.W.alikeAll, this, D.py, PySem.W.alike, Bool.and_self]
theorem sortOk_rows {l : List (List Wo)} (h : ∀ r ∈ l, ∀ s ∈ r, okS s) : sortOk (l.map rowD) := by
  refine ⟨fun d hd => ?_, ?_, ?_⟩
  · obtain ⟨r, hr, rfl⟩ := List.mem_map.mp hd
    exact (okN_strs (h r hr)).ok
  · rw [List.map_map]
    refine PySem.W.AllAlike.of fun a b => ?_
    show PySem.W.alike (rowD a).py (rowD b).py = true
    simp only [D.py, PySem.W.alike]
    exact alike_strs a b
  · rw [List.map_map]
    exact PySem.W.Sortable.others fun b => ⟨by simp [D.py], by simp [D.py]⟩
theorem le_cons (x y : Wo) (A C : List Wo) : leD (rowD (x :: A)) (rowD (y :: C)) = if x = y then leD (rowD A) (rowD C) else leW x y := by
  show (!PySem.W.dataLt (rowD (y :: C)).py (rowD (x :: A)).py) = if x = y then (!PySem.W.dataLt (rowD C).py (rowD A).py) else (!PySem.W.dataLt (D.str y).py (D.str x).py)
  have e : ∀ l : List Wo, (rowD l).py = .list (D.pys (l.map D.str)) := fun l => by simp only [D.py]
  rw [e, e, e, e, PySem.W.dataLt_list, PySem.W.dataLt_list]
  simp only [List.map_cons, D.pys]
  rw [PySem.W.dataLt_cons (by simp [D.py, PySem.W.alike])]
  have e2 : PyData.eqv (D.str y).py (D.str x).py = decide (y = x) := eqD_str y x
  rw [e2]
  by_cases h : x = y
  · subst h; simp
  · rw [if_neg h, decide_eq_false (fun e => h e.symm)]; simp
theorem le_self (d : D) : leD d d = true := by rcases leD_tot.total d d with h | h <;> exact h
theorem le_snoc (x y : Wo) : ∀ A C : List Wo, A.length = C.length → leD (rowD (A ++ [x])) (rowD (C ++ [y])) = if A = C then leW x y else leD (rowD A) (rowD C)
  | [], [], _ => by
    rw [if_pos rfl, List.nil_append, List.nil_append, le_cons]
    by_cases h : x = y
    · subst h; rw [if_pos rfl, le_self, leW, le_self]
    · rw [if_neg h]
  | a :: A, c :: C, h => by
    have ih := le_snoc x y A C (by simpa using h)
    rw [List.cons_append, List.cons_append, le_cons, le_cons, ih]
    by_cases e : a = c
    · subst e
      simp only [if_true, List.cons.injEq, true_and]
    · simp [e]
  | [], _ :: _, h => by simp at h
  | _ :: _, [], h => by simp at h
/-! ### words over a, b, c -/
def wk : Nat → List Wo
  | 0 => [[]]
  | n + 1 => (wk n).flatMap fun w => [97 :: w, 98 :: w, 99 :: w]
theorem wk_len : ∀ n, (wk n).length = 3 ^ n
  | 0 => rfl
  | n + 1 => by
    rw [wk, List.length_flatMap]
    simp only [List.length_cons, List.length_nil]
    rw [List.map_const', List.sum_replicate_nat, wk_len n, Nat.pow_succ]
theorem wk_mem : ∀ (w : Wo), abc w → w ∈ wk w.length
  | [], _ => by simp [wk]
  | c :: w, h => by
    have ih := wk_mem w fun d hd => h d (List.mem_cons_of_mem _ hd)
    rw [List.length_cons, wk, List.mem_flatMap]
    refine ⟨w, ih, ?_⟩
    rcases h c List.mem_cons_self with e | e | e <;> subst e <;> simp
def InW (n : Nat) (w : Wo) : Prop := w.length ≤ n ∧ abc w
theorem InW_few {n : Nat} {l : List Wo} (hn : l.Nodup) (h : ∀ w ∈ l, InW n w) : l.length ≤ ((List.range (n + 1)).map fun k => 3 ^ k).sum := by
  have := nodup_len (m := (List.range (n + 1)).flatMap wk) hn fun w hw => List.mem_flatMap.mpr ⟨w.length, List.mem_range.mpr (by have := (h w hw).1; omega), wk_mem w (h w hw).2⟩
  rw [List.length_flatMap] at this
  rwa [show (fun k => (wk k).length) = fun k => 3 ^ k from funext wk_len] at this
theorem cand_InW {S : Sy} {n : Nat} {w : Wo} (hS : SyF 4 S) (h : InW n w) : ∀ x ∈ cand S w, InW n x := by
  intro x hx
  obtain ⟨q, hq, hx⟩ := List.mem_flatMap.mp hx
  obtain ⟨at_, hat, he⟩ := List.mem_filterMap.mp hx
  obtain ⟨h1, h2, h3, h4, h5⟩ := hS q hq
  unfold one1 at he
  split at he
  · rename_i hl
    cases he
    have hlen := congrArg List.length hl
    rw [List.length_take, List.length_drop] at hlen
    have := h.1
    refine ⟨?_, abc_app (abc_app (fun c hc => h.2 c (List.mem_of_mem_take hc)) h5) fun c hc => h.2 c (List.mem_of_mem_drop hc)⟩
    simp only [List.length_append, List.length_take, List.length_drop]
    omega
  · cases he
theorem cand_len {S : Sy} {w : Wo} (hS : SyF 4 S) : (cand S w).length ≤ S.length * (w.length + 1) := by
  unfold cand
  induction S with
  | nil => simp
  | cons q S ih =>
    rw [List.flatMap_cons, List.length_append, List.length_cons, Nat.succ_mul]
    have h1 := ih fun p hp => hS p (List.mem_cons_of_mem _ hp)
    have h2 : (cand1 w q).length ≤ w.length + 1 := by
      unfold cand1
      refine Nat.le_trans (List.length_filterMap_le _ _) ?_
      rw [List.length_range]; omega
    omega
def stp (S : Sy) (w : Wo) : List Wo := sset (cand S w)
theorem stp_mem {S : Sy} {w x : Wo} : x ∈ stp S w ↔ x ∈ cand S w := sset_mem
/-- steps lead from a to x -/
inductive Lead (S : Sy) (a : Wo) : Wo → Prop
  | refl : Lead S a a
  | step {x y : Wo} : Lead S a x → y ∈ cand S x → Lead S a y
theorem Lead.InW {S : Sy} {n : Nat} {a x : Wo} (hS : SyF 4 S) (ha : InW n a) (h : Lead S a x) : InW n x := by
  induction h with
  | refl => exact ha
  | step _ hy ih => exact cand_InW hS ih _ hy
/-- what holds a and, with a word, all that steps lead to, holds all -/
theorem Lead.closed {S : Sy} {a x : Wo} {L : List Wo} (h : Lead S a x) (h0 : a ∈ L) (hc : ∀ x ∈ L, ∀ y ∈ cand S x, y ∈ L) : x ∈ L := by
  induction h with
  | refl => exact h0
  | step _ hy ih => exact hc _ ih _ hy
end PW

set_option Elab.async false
set_option linter.all false
set_option autoImplicit false
set_option maxRecDepth 100000
set_option maxHeartbeats 4000000
set_option synthInstance.maxHeartbeats 2000000
set_option synthInstance.maxSize 1000000
namespace PW
open PySem PySem.Spec PyProof.Rows L2

/-! ### d.get(k), d.get(k, x) -/
def isDctO : Option D → Prop
  | some (.dct _ _) => True
  | _ => False
def wGet1 (wo wk : WO) : WE := fun E Q => wo E fun o E1 => isDctO (o.get E1) ∧ wk E1 fun k E2 => match o.get E2, k.get E2 with
  | some (.dct t kd), some y => keyOk t y = true ∧ Q (.dat ((lookD kd y).getD .non)) E2
  | _, _ => False
def wGet2 (wo wk wx : WO) : WE := fun E Q => wo E fun o E1 => isDctO (o.get E1) ∧ wk E1 fun k E2 => wx E2 fun x E3 => match o.get E3, k.get E3, x.get E3 with
  | some (.dct t kd), some y, some z => flatD z = true ∧ keyOk t y = true ∧ Q (.dat ((lookD kd y).getD z)) E3
  | _, _, _ => False
section
variable {K : PySem.W.Frag} {F H : Hp} {v : V}
theorem Rdb.isD' {t : Bool} {kd : List (D × D)} (hx : Rdb K F H v (.dct t kd)) (s : Sub F H) : ∃ a, v = .ref a ∧ IsD H a := by
  cases t with
  | false => obtain ⟨a, kv, ea, h, r⟩ := hx.dK s; exact ⟨a, ea, .inl ⟨kv, h⟩⟩
  | true => obtain ⟨a, kv, ea, h, r⟩ := hx.dT s; exact ⟨a, ea, .inr ⟨kv, h⟩⟩
theorem isDctO_some {o : Option D} (h : isDctO o) : ∃ t kd, o = some (.dct t kd) := by
  cases o with
  | none => exact h.elim
  | some d => cases d <;> first | exact ⟨_, _, rfl⟩ | exact h.elim
theorem ok_get1 {wo wk : WO} : EOk K (tDGet1 (tO K wo) (tO K wk)) (wGet1 wo wk) := fun O G F σ H E Q r0 q => by
  refine tO_bind r0 q fun x H1 F1 E1 o s1 r1 p1 ⟨hd, q1⟩ => ?_
  obtain ⟨t, kd, eo⟩ := isDctO_some hd
  obtain ⟨a, ea, id⟩ := (r1.rdb p1 eo).isD' r1.f
  refine ⟨a, ea, id, ?_⟩
  refine tO_bind r1 q1 fun y H2 F2 E2 k s2 r2 p2 q2 => ?_
  split at q2
  · rename_i t kd dy eo2 ek
    obtain ⟨ok, q2⟩ := q2
    obtain ⟨b, eb, ov, g, hv⟩ := (r2.rdb (p1.mono s2) eo2).dget (r2.rdb p2 ek) r2.f ok
    have hab : a = b := by rw [ea] at eb; injection eb
    subst hab
    refine ⟨ov, g, ?_⟩
    rcases hv with ⟨h1, h2⟩ | ⟨w, e, h1, h2, h3⟩
    · subst h1
      rw [h2] at q2
      exact ⟨F2, E2, .dat .non, s1.trans s2, r2, datRR .non, q2⟩
    · subst h1
      rw [h2] at q2
      exact ⟨F2, E2, .dat e, s1.trans s2, r2, datRR h3, q2⟩
  · exact q2.elim
theorem ok_get2 {wo wk wx : WO} : EOk K (tDGet2 (tO K wo) (tO K wk) (tO K wx)) (wGet2 wo wk wx) := fun O G F σ H E Q r0 q => by
  refine tO_bind r0 q fun x H1 F1 E1 o s1 r1 p1 ⟨hd, q1⟩ => ?_
  obtain ⟨t, kd, eo⟩ := isDctO_some hd
  obtain ⟨a, ea, id⟩ := (r1.rdb p1 eo).isD' r1.f
  refine ⟨a, ea, id, ?_⟩
  refine tO_bind r1 q1 fun y H2 F2 E2 k s2 r2 p2 q2 => ?_
  refine tO_bind r2 q2 fun z H3 F3 E3 l s3 r3 p3 q3 => ?_
  split at q3
  · rename_i t kd dy dz eo2 ek ez
    obtain ⟨fl, ok, q3⟩ := q3
    obtain ⟨b, eb, ov, g, hv⟩ := (r3.rdb ((p1.mono s2).mono s3) eo2).dget (r3.rdb (p2.mono s3) ek) r3.f ok
    have hab : a = b := by rw [ea] at eb; injection eb
    subst hab
    refine ⟨ov, g, ?_⟩
    rcases hv with ⟨h1, h2⟩ | ⟨w, e, h1, h2, h3⟩
    · subst h1
      rw [h2] at q3
      exact ⟨F3, E3, .dat dz, (s1.trans s2).trans s3, r3, datRR ((r3.rdb p3 ez).flat fl), q3⟩
    · subst h1
      rw [h2] at q3
      exact ⟨F3, E3, .dat e, (s1.trans s2).trans s3, r3, datRR h3, q3⟩
  · exact q3.elim
end
section
variable {X : Cx} {o e f : Expr} {apos cpos : Pos} {wo wk wx : WO}
theorem ed_get1 (hu : X.A.units + 1 < cLine) (ho : OD X o wo) (hk : OD X e wk) (hb : attributeBase o "get" X.env (eval o X.env) = eval o X.env := by rfl)
    (hf : ((backTo cpos (starEach [e] X.env)).all (fun x => !x.1) && (backToKw cpos (keywordEach [] X.env)).all (fun x => x.1.isSome) && decide (([e] : List Expr).length + ([] : List Keyword).length + (if ([] : List Keyword).isEmpty then 0 else 1) < 30)) = true := by rfl)
    (hl : (apos.endLine == cpos.line) = true := by rfl) (ht : backTo cpos (starEach [e] X.env) = [(false, eval e X.env)] := by rfl) : ED X (.Call (.Attribute o "get" apos) [e] [] cpos) (wGet1 wo wk) :=
  ed_of (pe_dget1 hu ho hk ⟨hb, hf, hl, ht⟩) ok_get1
theorem ed_get2 (hu : X.A.units + 1 < cLine) (ho : OD X o wo) (hk : OD X e wk) (hx : OD X f wx) (hb : attributeBase o "get" X.env (eval o X.env) = eval o X.env := by rfl)
    (hf : ((backTo cpos (starEach [e, f] X.env)).all (fun x => !x.1) && (backToKw cpos (keywordEach [] X.env)).all (fun x => x.1.isSome) && decide (([e, f] : List Expr).length + ([] : List Keyword).length + (if ([] : List Keyword).isEmpty then 0 else 1) < 30)) = true := by rfl)
    (hl : (apos.endLine == cpos.line) = true := by rfl) (ht : backTo cpos (starEach [e, f] X.env) = [(false, eval e X.env), (false, eval f X.env)] := by rfl) : ED X (.Call (.Attribute o "get" apos) [e, f] [] cpos) (wGet2 wo wk wx) :=
  ed_of (pe_dget2 hu ho hk hx ⟨hb, hf, hl, ht⟩) ok_get2
end
section
variable {E E' : En} {Q : B → En → Prop} {QO : Opn → En → Prop} {wo wk wx : WO} {o p l : Opn} {y z : D} {t : Bool} {kd : List (D × D)} {R : Prop}
def get1K (wk : WO) (o : Opn) (E1 : En) (Q : B → En → Prop) : Prop := isDctO (o.get E1) ∧ wk E1 fun k E2 => match o.get E2, k.get E2 with
  | some (.dct t kd), some y => keyOk t y = true ∧ Q (.dat ((lookD kd y).getD .non)) E2
  | _, _ => False
def get1L (o k : Opn) (E2 : En) (Q : B → En → Prop) : Prop := match o.get E2, k.get E2 with
  | some (.dct t kd), some y => keyOk t y = true ∧ Q (.dat ((lookD kd y).getD .non)) E2
  | _, _ => False
def get2K (wk wx : WO) (o : Opn) (E1 : En) (Q : B → En → Prop) : Prop := isDctO (o.get E1) ∧ wk E1 fun k E2 => wx E2 fun x E3 => match o.get E3, k.get E3, x.get E3 with
  | some (.dct t kd), some y, some z => flatD z = true ∧ keyOk t y = true ∧ Q (.dat ((lookD kd y).getD z)) E3
  | _, _, _ => False
def get2L (o k x : Opn) (E3 : En) (Q : B → En → Prop) : Prop := match o.get E3, k.get E3, x.get E3 with
  | some (.dct t kd), some y, some z => flatD z = true ∧ keyOk t y = true ∧ Q (.dat ((lookD kd y).getD z)) E3
  | _, _, _ => False
instance [e : Ev (wo E fun o E1 => get1K wk o E1 Q) R] : Ev (wGet1 wo wk E Q) R := ⟨fun h => e.h h⟩
instance [g : GetC E o (.dct t kd)] [e : Ev (wk E fun k E2 => get1L o k E2 Q) R] : Ev (get1K wk o E Q) R := ⟨fun h => ⟨by rw [g.h]; trivial, e.h h⟩⟩
instance [g : GetC E o (.dct t kd)] [g2 : GetC E p y] [e : Ev (Q (.dat ((lookD kd y).getD .non)) E) R] : Ev (get1L o p E Q) (keyOk t y = true ∧ R) := ⟨fun h => by unfold get1L; rw [g.h, g2.h]; exact ⟨h.1, e.h h.2⟩⟩
instance [e : Ev (wo E fun o E1 => get2K wk wx o E1 Q) R] : Ev (wGet2 wo wk wx E Q) R := ⟨fun h => e.h h⟩
instance [g : GetC E o (.dct t kd)] [e : Ev (wk E fun k E2 => wx E2 fun x E3 => get2L o k x E3 Q) R] : Ev (get2K wk wx o E Q) R := ⟨fun h => ⟨by rw [g.h]; trivial, e.h h⟩⟩
instance [g : GetC E o (.dct t kd)] [g2 : GetC E p y] [g3 : GetC E l z] [e : Ev (Q (.dat ((lookD kd y).getD z)) E) R] : Ev (get2L o p l E Q) (flatD z = true ∧ keyOk t y = true ∧ R) := ⟨fun h => by unfold get2L; rw [g.h, g2.h, g3.h]; exact ⟨h.1, h.2.1, e.h h.2.2⟩⟩
end
end PW

set_option Elab.async false
set_option linter.all false
set_option autoImplicit false
set_option maxRecDepth 100000
set_option maxHeartbeats 4000000
set_option synthInstance.maxHeartbeats 2000000
set_option synthInstance.maxSize 1000000
namespace PW
open PySem PySem.Spec PyProof.Rows L2
/-! ### for k, v in d.items() -/
def pairD (p : D × D) : D := .tup [p.1, p.2]
def iIt (w : WE) : WI := fun E Q => w E fun b E1 => ∃ kd, b.d = .dct false kd ∧ Q (kd.map pairD) E1
section
variable {K : PySem.W.Frag} {F1 : Hp}
theorem gives_items {a : Addr} {o : Obj} {kv : List (Key × V)} {kd : List (D × D)} (h : F1 a = some (.frz o (.dK kv))) (p : RepK K F1 kv kd) : Gives K (Iti a o kv) F1 (kd.map pairD) where
  go := fun O F σ H E i r hi => ⟨r.f.exact (r.g.exact h rfl) rfl, by rw [p.length]; simpa using hi⟩
  stop := fun O F σ H E r => ⟨r.f.exact (r.g.exact h rfl) rfl, by rw [p.length]; simp⟩
  yld := fun O F σ H E i x H' r hi y => by
    obtain ⟨T, k0, v0, hk, ex, hT, eH⟩ := y
    subst ex eH
    obtain ⟨d, h1, h2⟩ := p.getK hk
    have r1 : R K O F1 F σ (upd H T (.tup [kV k0, v0])) E := r.alloc hT
    obtain ⟨F', s', r', e'⟩ := r1.knowTup upd_same
    refine ⟨F', pairD (kD k0, d), s', r', .tup e' (.cons (rep_kV k0) (.cons ((h2.mono r.g).mono s') .nil)), ?_⟩
    rw [List.getElem?_map, h1]; rfl
end
section
variable {X : Cx} {tg e : Expr} {apos cpos : Pos}
theorem pe_locked {w : WE} (he : ED X e w) : PE X e (fun σ H Q => ∃ (O G F : Hp) (E : En) (Q' : B → List (D × D) → En → Prop), R X.K O G F σ H E ∧ w E (fun b E1 => ∃ kd, b.d = .dct false kd ∧ Q' b kd E1) ∧ ∀ a o kv kd H' F' E' b, Sub F F' → R X.K O G F' σ H' E' → F' a = some (.frz o (.dK kv)) → H' a = some (.frz o (.dK kv)) → RepK X.K F' kv kd → Q' b kd E' → Q (.ref a) H') := ⟨fun pins s σ H Q I h => by
  obtain ⟨O, G, F, E, Q', r, hw, kk⟩ := h
  refine thn (he.run pins s σ H (fun v H1 => ∃ F1 E1 b, Sub F F1 ∧ R X.K O G F1 σ H1 E1 ∧ RR X.K O F1 σ H1 E1 v b ∧ _) I (tE_ok O G F σ H E _ r hw)) fun u s1 ⟨v, H1, I1, rv, F0, E1, b, sb0, r0, p0, kd, ei, q⟩ => ?_
  obtain ⟨F1, sb1, r1, p1⟩ := r0.frz p0
  rw [ei] at p1
  cases p1 with
  | dK h p =>
    cases rv
    rcases r1.lockRd h rfl with ⟨o, hF, hH⟩ | ⟨o, hF, hH⟩ | ⟨hF, hH⟩
    · exact ⟨.ref _, H1, I1, rfl, kk _ _ _ _ _ _ _ _ (sb0.trans sb1) r1 hF hH p q⟩
    · obtain ⟨s2, r2⟩ := r1.lock2 hF hH rfl
      exact ⟨.ref _, H1, I1, rfl, kk _ _ _ _ _ _ _ _ ((sb0.trans sb1).trans s2) r2 upd_same hH (p.mono s2) q⟩
    · obtain ⟨o, I2⟩ := I1.lock hH True.intro
      obtain ⟨s2, r2⟩ := r1.lock (o := o) hF hH rfl
      exact ⟨.ref _, _, I2, rfl, kk _ _ _ _ _ _ _ _ ((sb0.trans sb1).trans s2) r2 upd_same upd_same (p.mono s2) q⟩⟩
theorem id_items {elts : List Expr} {kk : Nat} {tpos : Pos} {w : WE} (he : ED X e w) (hbase : attributeBase e "items" X.env (eval e X.env) = eval e X.env := by rfl) (hline : (apos.endLine == cpos.line) = true := by rfl) :
    ID X (.Tuple elts kk tpos) (.Call (.Attribute e "items" apos) [] [] cpos) (iIt w) := ⟨fun pins s σ H Rr I h => by
  obtain ⟨O, G, F, E, Q', r, hw, kk⟩ := h
  refine (pi_items (pe_locked he) hbase hline).run pins s σ H Rr I ⟨O, G, F, E, fun _ kd E1 => Q' (kd.map pairD) E1, r, hw, fun a o kv kd H' F' E' b sb r' hF hH p q => ?_⟩
  exact ⟨a, o, kv, rfl, hH, kk _ H' F' E' _ sb r' (gives_items hF p) q⟩⟩
end
section
variable {E : En} {QA : List D → En → Prop} {w : WE} {kd : List (D × D)} {R : Prop}
def itemK (b : B) (E : En) (QA : List D → En → Prop) : Prop := ∃ kd, b.d = .dct false kd ∧ QA (kd.map pairD) E
instance [e : Ev (w E fun b E1 => itemK b E1 QA) R] : Ev (iIt w E QA) R := ⟨fun h => e.h h⟩
instance [e : Ev (QA (kd.map pairD) E) R] : Ev (itemK (.dat (.dct false kd)) E QA) R := ⟨fun h => ⟨kd, rfl, e.h h⟩⟩
instance [e : Ev (QA (kd.map pairD) E) R] : Ev (itemK (.own (.dct false kd)) E QA) R := ⟨fun h => ⟨kd, rfl, e.h h⟩⟩
end
/-! ### list(d.values()) -/
def rVals : V → Hp → VK → Prop := fun x H Q => ∃ (d : Addr) (kv : List (Key × V)), x = .ref d ∧ Rd H d (.dK kv) ∧ ∀ p, H p = none → Q (.ref p) (upd H p (.lst (kv.map (·.2))))
def wVals (x : D) (Q : B → Prop) : Prop := match x with
  | .dct false kd => Q (.own (.lst (kd.map (·.2))))
  | _ => False
section
variable {X : Cx} {e : Expr} {te : TE} {p apos cpos pos : Pos}
theorem vals_snd : ∀ {kv : List (Key × V)} {vs : List (Key × Value)}, KV kv vs → ∀ us : List Value, us.length = vs.length → (∀ (j : Nat) (v : Value), us[j]? = some v → ∃ k, vs[j]? = some (k, v)) → Vals (kv.map (·.2)) us
  | _, _, .nil, [], _, _ => .nil
  | _, _, .nil, _ :: _, h, _ => by cases h
  | _, _, .cons r t, [], h, _ => by cases h
  | _, _, .cons r t, u :: us, h, hv => by
    obtain ⟨k, e⟩ := hv 0 u rfl
    have e := Option.some.inj e
    refine .cons (by have := r.2; rw [e] at this; exact this) (vals_snd t us (by simpa using h) fun j v z => ?_)
    obtain ⟨k', e'⟩ := hv (j + 1) v (by simpa using z)
    exact ⟨k', by simpa using e'⟩
theorem pe_listVals (hc : X.calm = true) (he : PE X e te) (hg : Gl X "list") (hm : X.mg "list" = none) (hv : bootBuiltins "list" = some (.type "list")) (hbase : attributeBase e "values" X.env (eval e X.env) = eval e X.env := by rfl) (hline : (apos.endLine == cpos.line) = true := by rfl)
    (hs : starEach [.Call (.Attribute e "values" apos) [] [] cpos] X.env = (false, eval (.Call (.Attribute e "values" apos) [] [] cpos) X.env) :: starEach [] X.env := by rfl) :
    PE X (.Call (.Name "list" p) [.Call (.Attribute e "values" apos) [] [] cpos] [] pos) (fun σ H Q => te σ H fun x H1 => rVals x H1 Q) := by
  refine ⟨fun pins s σ H Q I hq => ?_⟩
  refine wpAny_Call_Name_kw (ld_blt I hg hm hv (PyProof.Rows.callWith_type1 ?_ hs rfl))
  rw [hs]
  refine Calls.spliced_cons (wpAny_Call_method (T := "dict") (id := "dict.values") hbase rfl hline F.plainAttrs_dict F.slot_dict_values F.type_dict_values (thn (he.run pins s σ H _ I hq) fun u s1 ⟨x, H1, I1, rx, d, kv, ex, hd, q⟩ => ?_))
  subst ex
  obtain rfl : u = Value.ref d := rx
  obtain ⟨hz, hs0, vs, rel, hdo⟩ := dk_rd I1.hok hd
  obtain ⟨ep, hat⟩ := hdo.dictAt
  have lk : kv.length = vs.length := Paired.length rel
  have I2 : Inv X pins σ H1 { s1 with heap := s1.heap.push { cls := .type "dict_values", data := .fields #[.ref d] } } := I1.kept (t' := s1.toks) fun b ob q => Heap.get?_push_of_some _ q
  refine ⟨hdo.typeIs, hdo.mapOf.noDict, ?_⟩
  show wpAny _ _ (callWith cpos (.builtin "dict.values") [.ref d] [] []) _ X.xe s1
  refine method_meetsIn F.slot_dict_values F.entry_dict_values rfl (PySem.evalArgs_none ⟨rfl, hdo.typeIs, F.args_dict_values_1 _, _, meets_dict_values (mixKind X.prog X.w) d hs0, ⟨vs, hdo⟩, ?_⟩)
  refine Calls.spliced_nil ?_
  refine PySem.W.kdl_call (PySem.W.kdl_values (knd := mixKind X.prog X.w) (kvs := vs) (ep := ep)) (I1.ok.hd hc) ⟨⟨_, Heap.get?_push_size _ rfl, rfl, rfl⟩, hat.push _⟩ (by omega) fun h' tk acc c hk hS hacc => ?_
  have hn : H1 (s1.heap.push { cls := .type "dict_values", data := .fields #[.ref d] }).objs.size = none := I2.hok.fresh (Nat.le_refl _)
  exact ⟨.ref _, _, I2.laid (o := .lst (kv.map (·.2))) (t' := tk) hk (Nat.le_refl _) ⟨by rw [List.length_map]; exact hz, acc.toList, c, vals_snd rel acc.toList (by rw [Array.length_toList]; exact hacc.1) fun j v e => hacc.2 j v (by rw [← Array.getElem?_toList]; exact e), by rw [Array.toArray_toList]; exact hS⟩, rfl, q _ hn⟩
end
section
variable {K : PySem.W.Frag}
theorem RepK.snd : ∀ {kv : List (Key × V)} {kd : List (D × D)} {F : Hp}, RepK K F kv kd → RepL K F (kv.map (·.2)) (kd.map (·.2))
  | _, _, _, .nil => .nil
  | _, _, _, .cons h r => .cons h r.snd
theorem RepK.fst : ∀ {kv : List (Key × V)} {kd : List (D × D)} {F : Hp}, RepK K F kv kd → kd.map (·.1) = kv.map fun p => kD p.1
  | _, _, _, .nil => rfl
  | _, _, _, .cons h r => by rw [List.map_cons, List.map_cons, r.fst]
theorem k_vals : Op1Ok K rVals wVals := by
  intro O G F σ H E x dx Q Q' r hx q k
  cases dx with
  | dct t kd =>
    cases t with
    | false =>
      obtain ⟨a, kv, ea, h, rk⟩ := hx.dK r.f
      exact ⟨a, kv, ea, h, fun p hp => k _ _ (.lst r hp (ds := kd.map (·.2)) rk.snd (show Q (.own (.lst (kd.map (·.2)))) from q))⟩
    | true => exact (show False from q).elim
  | _ => exact (show False from q).elim
end
section
variable {X : Cx} {e : Expr} {p apos cpos pos : Pos}
theorem ed_listVals {wo : WO} (hc : X.calm = true) (he : OD X e wo) (hg : Gl X "list") (hm : X.mg "list" = none) (hv : bootBuiltins "list" = some (.type "list")) (hbase : attributeBase e "values" X.env (eval e X.env) = eval e X.env := by rfl) (hline : (apos.endLine == cpos.line) = true := by rfl)
    (hs : starEach [.Call (.Attribute e "values" apos) [] [] cpos] X.env = (false, eval (.Call (.Attribute e "values" apos) [] [] cpos) X.env) :: starEach [] X.env := by rfl) :
    ED X (.Call (.Name "list" p) [.Call (.Attribute e "values" apos) [] [] cpos] [] pos) (wUn wVals wo) := ed_of (pe_listVals hc he hg hm hv hbase hline hs) (ok_un k_vals)
end
section
variable {P : B → Prop} {kd : List (D × D)} {R : Prop}
instance [e : Ev (P (.own (.lst (kd.map (·.2))))) R] : Ev (wVals (.dct false kd) P) R := ⟨fun h => e.h h⟩
end
/-! ### sorted(d), d with texts as keys -/
abbrev leS (x y : Str) : Bool := PySem.W.dataLe false PyData.str x y
def rSortK : List V → Hp → VK → Prop := fun xs H Q => ∃ (a : Addr) (kv : List (Key × V)) (ks : List Str), xs = [.ref a] ∧ Rd H a (.dK kv) ∧ kv.map (·.1) = ks.map Sum.inr ∧ ∀ p, H p = none → Q (.ref p) (upd H p (.lst ((ks.mergeSort leS).map V.str)))
theorem each_strs : ∀ {us : List Value} {ks : List Str}, StrsAre us ks → PySem.W.EachIs (fun v (k : Str) => ∃ t, v = .str k t) us ks
  | _, _, .nil => .nil
  | _, _, .cons _ _ t => .cons ⟨_, rfl⟩ (each_strs t)
theorem each_vals : ∀ {us : List Value} {ks : List Str}, PySem.W.EachIs (fun v (k : Str) => ∃ t, v = .str k t) us ks → Vals (ks.map V.str) us
  | _, _, .nil => .nil
  | _, _, .cons r t => .cons r (each_vals t)
section
variable {X : Cx}
theorem cr_sortK (hcalm : X.calm = true) (hu : X.A.units + 70 < cLine) : CallR X (.builtin "sorted") rSortK := by
  intro pins s σ H xs us Q I r q
  obtain ⟨a, kvs, ks, ex, hd, hks, q⟩ := q
  subst ex
  rw [Vals.ref1 r]
  obtain ⟨z, lo, vs, rel, dd⟩ := dk_rd I.hok hd
  obtain ⟨ep, hat⟩ := dd.dictAt
  have hkeys : vs.map (·.1) = ks.map Sum.inr := rel.keys.symm.trans hks
  have hl : vs.length = ks.length := by
    have e := congrArg List.length hkeys
    simpa using e
  have h16 : vs.length ≤ sizeLine := by rw [← (show kvs.length = vs.length from Paired.length rel)]; exact z
  refine Calls.call_function_entry PyProof.Rows.kind_sorted PyProof.Rows.plain_sorted PyProof.Rows.entry_sorted (PyProof.Rows.args_sorted1 _) ?_
  unfold Builtin.«sorted»
  refine wpAny_bind (m := checkCount "sorted" 1 1 _) (wpAny_pure ?_)
  refine wpAny_bind (PySem.W.kdu_collect (A := X.A.in1) (PySem.W.kdl_dict (knd := mixKind X.prog X.w) (kvs := vs) (ep := ep) lo) (I.ok.hd hcalm) hat h16 fun h' tk acc hk hacc => ?_)
  have hal : acc.toList.length = ks.length := by rw [Array.length_toList, hacc.1, hl]
  have hS : StrsAre acc.toList ks := strs_at hal fun j v e => by
    obtain ⟨k, x, e1, e2⟩ := hacc.2 j v (by rw [← Array.getElem?_toList]; exact e)
    have e3 : (vs.map (·.1))[j]? = some k := by rw [List.getElem?_map, e1]; rfl
    rw [hkeys, List.getElem?_map] at e3
    obtain ⟨y, e4, e5⟩ := Option.map_eq_some_iff.mp e3
    subst e5
    obtain ⟨t, ev⟩ := Value.isStrOf_shape (x := y) (v := v) e2
    exact ⟨y, t, e4, ev⟩
  have I1 : Inv X pins σ H { s with heap := h', toks := tk } := I.kept hk
  refine wpAny_bind (wpAny_newList ?_ (by rw [hal, ← hl]; exact h16))
  have hoL : (h'.push (seqObj "list" acc.toList.toArray 0)).get? h'.objs.size = some (seqObj "list" acc.toList.toArray 0) := Heap.get?_push_size _ rfl
  show wpAny _ _ _ _ _ { s with heap := h'.push (seqObj "list" acc.toList.toArray 0), toks := tk }
  have hE := each_strs hS
  refine wpAny_bind (wpAny_holding (PySem.W.list_sort_data (R := fun v (k : Str) => ∃ t, v = .str k t) (enc := PyData.str) (bs := ks) (vs := acc.toList) (s := { s with heap := h'.push (seqObj "list" acc.toList.toArray 0), toks := tk }) hoL hE (hE.mono fun v k ⟨t, e⟩ => ⟨[], by rw [e]; exact .str k t, by simp⟩)
    (PySem.W.AllAlike.of fun _ _ => rfl) (PySem.W.Sortable.others fun _ => ⟨by simp, by simp⟩) (by rw [← hl]; exact h16) (fun b _ => ?_) fun out hol heo => ?_))
  · have e1 : X.A.in1.units ≤ X.A.units + 1 := by
      show X.A.in1.units ≤ _
      first | (simp [Around.in1]; done) | (unfold Around.in1; dsimp only; omega)
    show X.A.in1.units + 1 + 0 < cLine
    omega
  · obtain ⟨c, hc⟩ := PyProof.Rows.sortedHeap_at (vs := acc.toList) (out := out.toArray) hoL
    refine wpAny_pure ⟨_, rfl, .ref h'.objs.size, upd H h'.objs.size (.lst ((ks.mergeSort leS).map V.str)), I1.laid (t' := tk) (fun b u e => ?_) (Nat.le_refl _) ⟨?_, out, c, each_vals heo, hc⟩, rfl, q _ (I1.hok.fresh (Nat.le_refl _))⟩
    · have hb : b < h'.objs.size := Heap.lt_size e
      rw [PyProof.Rows.sortedHeap_old (Nat.ne_of_lt hb) (by rw [size_push']; exact Nat.lt_succ_of_lt hb)]
      exact Heap.get?_push_of_some _ e
    · rw [List.length_map, List.length_mergeSort, ← hl]; exact h16
end

def wSortK (x : D) (Q : B → Prop) : Prop := match x with
  | .dct false kd => ∃ ks : List (List Nat), kd.map (·.1) = ks.map D.str ∧ Q (.own (.lst ((ks.map D.str).mergeSort leD)))
  | _ => False
theorem leS_mk (a b : List Nat) : leS (mkS a) (mkS b) = leD (.str a) (.str b) := by
  show PySem.W.dataLe false PyData.str _ _ = PySem.W.dataLe false D.py _ _
  rw [PySem.W.dataLe_eq, PySem.W.dataLe_eq]; simp only [D.py]
theorem sort_mk (ks : List (List Nat)) : ((ks.map mkS).mergeSort leS) = (ks.mergeSort fun a b => leD (.str a) (.str b)).map mkS := (List.map_mergeSort (f := mkS) (r := fun a b => leD (.str a) (.str b)) (s := leS) (fun a _ b _ => (leS_mk a b).symm)).symm
theorem sort_str (ks : List (List Nat)) : ((ks.map D.str).mergeSort leD) = (ks.mergeSort fun a b => leD (.str a) (.str b)).map D.str := (List.map_mergeSort (f := D.str) (r := fun a b => leD (.str a) (.str b)) (s := leD) (fun a _ b _ => rfl)).symm
section
variable {K : PySem.W.Frag}
theorem kD_strs : ∀ {kv : List (Key × V)} {ks : List (List Nat)}, (kv.map fun p => kD p.1) = ks.map D.str → kv.map (·.1) = (ks.map mkS).map Sum.inr
  | [], [], _ => rfl
  | [], _ :: _, h => by cases h
  | _ :: _, [], h => by cases h
  | (k, v) :: kv, s :: ks, h => by
    rw [List.map_cons, List.map_cons] at h
    injection h with h1 h2
    rw [List.map_cons, List.map_cons, List.map_cons, kD_strs h2]
    refine congrArg (· :: _) ?_
    cases k with
    | inl n => exact D.noConfusion h1
    | inr t =>
      have : (t : Str).cps.toList = s := D.str.inj h1
      rw [← this]
theorem strs_repl {F : Hp} : ∀ l : List (List Nat), RepL K F ((l.map mkS).map V.str) (l.map D.str)
  | [] => .nil
  | s :: l => .cons (.str s) (strs_repl l)
theorem k_sortK : Op1Ok K (fun x H Q => rSortK [x] H Q) wSortK := by
  intro O G F σ H E x dx Q Q' r hx q k
  cases dx with
  | dct t kd =>
    cases t with
    | false =>
      obtain ⟨ks, hk, q⟩ := (show ∃ ks : List (List Nat), kd.map (·.1) = ks.map D.str ∧ Q (.own (.lst ((ks.map D.str).mergeSort leD))) from q)
      obtain ⟨a, kv, ea, h, rk⟩ := hx.dK r.f
      subst ea
      refine ⟨a, kv, ks.map mkS, rfl, h, kD_strs (by rw [← rk.fst]; exact hk), fun p hp => ?_⟩
      rw [sort_mk]
      rw [sort_str] at q
      exact k _ _ (.lst r hp (strs_repl _) q)
    | true => exact (show False from q).elim
  | _ => exact (show False from q).elim
end
section
variable {P : B → Prop} {kd : List (D × D)} {RS : List (List Nat) → Prop}
instance [e : ∀ ks : List (List Nat), Ev (P (.own (.lst ((ks.map D.str).mergeSort leD)))) (RS ks)] : Ev (wSortK (.dct false kd) P) (∃ ks : List (List Nat), kd.map (·.1) = ks.map D.str ∧ RS ks) := ⟨fun ⟨ks, h1, h⟩ => ⟨ks, h1, (e ks).h h⟩⟩
end
/-! ### x.startswith(y), x.endswith(y) -/
theorem starts_mk (a b : List Nat) : Txt.startswith (mkS a) (mkS b) = b.isPrefixOf a := by
  unfold Txt.startswith
  rw [StrLaws.subAt_eq, mkS_length, mkS_length]
  show (decide (0 + b.length ≤ a.length) && ((a.drop 0).take b.length == b)) = _
  rw [Bool.eq_iff_iff, List.isPrefixOf_iff_prefix, List.prefix_iff_eq_take, Bool.and_eq_true, decide_eq_true_iff, beq_iff_eq, List.drop_zero]
  constructor
  · rintro ⟨_, h⟩; exact h.symm
  · intro h
    refine ⟨?_, h.symm⟩
    have := congrArg List.length h
    rw [List.length_take] at this; omega
theorem ends_mk (a b : List Nat) : Txt.endswith (mkS a) (mkS b) = b.isSuffixOf a := by
  unfold Txt.endswith
  rw [StrLaws.subAt_eq, mkS_length, mkS_length]
  show (decide (0 + b.length ≤ a.length) && ((a.drop (a.length - b.length)).take b.length == b)) = _
  rw [Bool.eq_iff_iff, List.isSuffixOf_iff_suffix, List.suffix_iff_eq_drop, Bool.and_eq_true, decide_eq_true_iff, beq_iff_eq]
  constructor
  · rintro ⟨h1, h⟩
    rw [List.take_of_length_le (by rw [List.length_drop]; omega)] at h
    exact h.symm
  · intro h
    have h1 := congrArg List.length h
    rw [List.length_drop] at h1
    refine ⟨by omega, ?_⟩
    rw [← h, List.take_of_length_le (Nat.le_refl _)]
section
variable {K : PySem.W.Frag}
theorem k_starts : Op2Ok K (fun x y H Q => ∃ a b, x = .str a ∧ [y] = [.str b] ∧ Q (.bl (Txt.startswith a b)) H) wStarts := by
  intro O G F σ H E x y dx dy Q Q' r hx hy q k
  cases dx with
  | str a =>
    cases dy with
    | str b =>
      refine ⟨mkS a, mkS b, hx.str, by rw [hy.str], ?_⟩
      rw [starts_mk]
      exact k _ _ (.dat r (.bl _) q)
    | _ => exact (show False from q).elim
  | _ => exact (show False from q).elim
theorem k_ends : Op2Ok K (fun x y H Q => ∃ a b, x = .str a ∧ [y] = [.str b] ∧ Q (.bl (Txt.endswith a b)) H) wEnds := by
  intro O G F σ H E x y dx dy Q Q' r hx hy q k
  cases dx with
  | str a =>
    cases dy with
    | str b =>
      refine ⟨mkS a, mkS b, hx.str, by rw [hy.str], ?_⟩
      rw [ends_mk]
      exact k _ _ (.dat r (.bl _) q)
    | _ => exact (show False from q).elim
  | _ => exact (show False from q).elim
end
section
variable {a b : List Nat} {P : B → Prop} {R : Prop}
instance [e : Ev (P (.dat (.bl (b.isPrefixOf a)))) R] : Ev (wStarts (.str a) (.str b) P) R := ⟨fun h => e.h h⟩
instance [e : Ev (P (.dat (.bl (b.isSuffixOf a)))) R] : Ev (wEnds (.str a) (.str b) P) R := ⟨fun h => e.h h⟩
end
/-! ### comprehensions with a test, over a family of states -/
def gW (p : D → Bool) (f : D → D) (ds : List D) (J : En → Prop) : Nat → List D → En → Prop := fun i acc E' => acc = ((ds.take i).filter p).map f ∧ J E'
def yG (p : D → Bool) (f : D → D) (ds : List D) (vs : List Nat) (J : En → Prop) (i : Nat) (y : B) (E4 : En) : Prop := (((ds.take i).filter p).map f).length < 16777216 ∧ gW p f ds J (i + 1) (((ds.take i).filter p).map f ++ [y.d]) (wipeE E4 vs)
def nG (p : D → Bool) (f : D → D) (ds : List D) (vs : List Nat) (J : En → Prop) (i : Nat) (E3 : En) : Prop := gW p f ds J (i + 1) (((ds.take i).filter p).map f) (wipeE E3 vs)
section
variable {α : Type} {E : En} {Q : B → En → Prop} {t : WT} {we : WE} {wg : WG} {vs : List Nat} {ds : List D}
theorem x_lcG (p : D → Bool) (f : D → D) (F : α → En) (pr : α → Prop) (x0 : α) (e0 : wipeE E vs = F x0) (p0 : pr x0) {G : α → En} [e9 : ∀ x, BackC (F x) E vs (G x)]
    (hs : ∀ (i : Nat) (d : D) (x : α), ds[i]? = some d → pr x → wg d (F x) fun E2 => t E2 fun b E3 => if b = true then we E3 (yG p f ds vs (jP F pr) i) else nG p f ds vs (jP F pr) i E3)
    (hd : ∀ x, pr x → Q (.own (.lst ((ds.filter p).map f))) (G x)) : lcK wg t we vs ds E Q := by
  refine x_lcK (gW p f ds (jP F pr)) ⟨rfl, x0, p0, e0⟩ ?_ ?_
  · rintro i d acc E' hi ⟨rfl, x, hx, rfl⟩
    exact hs i d x hi hx
  · rintro acc E' ⟨rfl, x, hx, rfl⟩
    rw [(e9 x).h, List.take_length]; exact hd x hx
theorem yG_c {p : D → Bool} {f : D → D} {F : α → En} {pr : α → Prop} {i : Nat} {E4 E5 : En} {d : D} {yb : B} {v : D} (x : α) (hi : ds[i]? = some d) (hl : ds.length ≤ 16777216) [dv : DtC yb v] [hw : WipeC E4 vs E5] (he : E5 = F x) (hpr : pr x) (hp : p d = true) (hf : v = f d) : yG p f ds vs (jP F pr) i yb E4 := by
  refine ⟨?_, ?_, x, hpr, by rw [hw.h, he]⟩
  · rw [List.length_map]
    have := List.length_filter_le p (ds.take i)
    rw [List.length_take] at this
    have := (List.getElem?_eq_some_iff.mp hi).1
    omega
  · rw [take_snoc hi, List.filter_append, List.filter_cons_of_pos hp, List.map_append, dv.h, hf]; rfl
theorem nG_c {p : D → Bool} {f : D → D} {F : α → En} {pr : α → Prop} {i : Nat} {E3 E5 : En} {d : D} (x : α) (hi : ds[i]? = some d) [hw : WipeC E3 vs E5] (he : E5 = F x) (hpr : pr x) (hp : p d = false) : nG p f ds vs (jP F pr) i E3 := by
  refine ⟨?_, x, hpr, by rw [hw.h, he]⟩
  rw [take_snoc hi, List.filter_append, List.filter_cons_of_neg (by rw [hp]; decide)]; simp
end
end PW

set_option Elab.async false
set_option linter.all false
set_option autoImplicit false
set_option maxRecDepth 100000
set_option maxHeartbeats 4000000
set_option synthInstance.maxHeartbeats 2000000
set_option synthInstance.maxSize 1000000
namespace PW
open PySem PySem.Spec PyProof.Rows L2
/-! ### dict comprehensions, keys numbers or texts -/
def dcK (wg : WG) (wt : WT) (wk we : WE) (vs : List Nat) (ds : List D) (E1 : En) (Q : B → En → Prop) : Prop := ∃ W : Nat → List (D × D) → En → Prop, W 0 [] (wipeE E1 vs) ∧
  (∀ i d acc E', ds[i]? = some d → W i acc E' → wg d E' fun E2 => wt E2 fun b E3 => if b = true then wk E3 fun k E4 => we E4 fun y E5 => keyOk false k.d = true ∧ acc.length < 16777216 ∧ W (i + 1) (putD acc k.d y.d) (wipeE E5 vs) else W (i + 1) acc (wipeE E3 vs)) ∧
  ∀ acc E', W ds.length acc E' → Q (.own (.dct false acc)) (backE E' E1 vs)
def wDc (wi : WI) (wg : WG) (wt : WT) (wk we : WE) (vs : List Nat) : WE := fun E Q => wi E fun ds E1 => dcK wg wt wk we vs ds E1 Q
section
variable {K : PySem.W.Frag}
theorem ok_dcK {wi : WI} {wg : WG} {wt : WT} {wk we : WE} {vs : List Nat} {O G F : Hp} {σ : L2.St} {H : Hp} {E : En} {Q : B → En → Prop} {Qv : VK} (r : R K O G F σ H E) (h : wDc wi wg wt wk we vs E Q)
    (kv : ∀ v H' F' E' b, Sub F F' → R K O G F' σ H' E' → RR K O F' σ H' E' v b → Q b E' → Qv v H') : tDc (tI K wi) (tGv K vs wg) (tT K wt) (tE K wk) (tE K we) vs σ H Qv := by
  refine tI_bind r h fun J H1 F1 E1 ds s1 r1 g ⟨W, w0, turn, done⟩ => ?_
  intro D hD
  have nD := r1.f.gone hD
  have oD := r1.oNone hD
  refine ⟨fun i m H => m = ds.length - i ∧ i ≤ ds.length ∧ ∃ F E acc xs, Sub F1 F ∧ F D = none ∧ R K (upd O D (.dK xs)) F1 F (L2.wipe σ vs) H E ∧ RepK K F xs acc ∧ W i acc E, ⟨_, rfl, Nat.zero_le _, F1, _, [], [], Sub.refl F1, nD, ?_, .nil, w0⟩, ?_⟩
  · have r2 := ((r1.alloc (u := .dK []) hD).wipe vs)
    have r3 := r2.hide upd_same nD (fun w => by
      obtain ⟨i, b, v, e1, e2, e3⟩ := w
      exact r1.notOwned hD ⟨i, b, v, (wipeE_some e1).1, (wipe_some e2).1, e3⟩)
    exact ⟨Sub.refl F1, r3.f, r3.o, r3.len, r3.at_, r3.nd⟩
  · rintro i m H2 ⟨rfl, hi, F2, E2, acc, xs, s2, n2, r2, p2, w2⟩
    by_cases hlt : i < ds.length
    · refine .inr ⟨g.go _ F2 _ H2 E2 i r2 hlt, _, fun H' h => h, fun x H3 y => ?_⟩
      obtain ⟨F3, d, s3, r3, p3, e3⟩ := g.yld _ F2 _ H2 E2 i x H3 r2 hlt y
      refine ⟨_, _, F3, E2, d, _, r3, p3, turn i d acc E2 e3 w2, fun σ4 H4 F4 E4 hw4 s4 r4 q4 => ?_⟩
      rw [wipe_wipe] at hw4
      refine ⟨hw4, tT_bind r4 q4 fun b H5 F5 E5 s5 r5 q5 => ?_⟩
      have keep : ∀ {F' H' E'} {xs : List (Key × V)}, R K (upd O D (.dK xs)) F1 F' σ4 H' E' → F' D = none := fun {F' H' E' xs} r' => by
        rcases (r'.o D _ upd_same).2 with z | z
        · exact z
        · cases z
      cases b with
      | true =>
        have q5 : wk E5 fun k E4 => we E4 fun y E5 => keyOk false k.d = true ∧ acc.length < 16777216 ∧ W (i + 1) (putD acc k.d y.d) (wipeE E5 vs) := q5
        refine tE_bind r5 q5 fun zk H6 F6 E6 bk s6 r6 p6 q6 => ?_
        obtain ⟨F7, s7, r7, p7⟩ := r6.frz p6
        refine tE_bind r7 q6 fun z H8 F8 E8 b8 s8 r8 p8 q8 => ?_
        obtain ⟨F9, s9, r9, p9⟩ := r8.frz p8
        obtain ⟨okk, hlen, q8⟩ := q8
        obtain ⟨key, e1, e2⟩ := p7.key okk
        have n9 := keep r9
        have pl : RepK K F9 xs acc := p2.mono ((((s3.trans s4).trans s5).trans (s6.trans s7)).trans (s8.trans s9))
        refine ⟨xs, key, e2, (r9.o D _ upd_same).1, by rw [pl.length, line_eq]; exact hlen, ds.length - (i + 1), by omega, rfl, hlt, F9, wipeE E8 vs, putD acc bk.d b8.d, L2.putK xs key z, ((((s2.trans s3).trans s4).trans s5).trans (s6.trans s7)).trans (s8.trans s9), n9, ?_, ?_, q8⟩
        · obtain ⟨r10, w10⟩ := r9.unhide (u' := .dK (L2.putK xs key z)) n9 oD
          have r11 := (r10.wipe vs)
          rw [hw4] at r11
          refine r11.hide upd_same n9 fun w => w10 ?_
          obtain ⟨j, b, v, e1, e2, e3⟩ := w
          rw [← hw4] at e2
          exact ⟨j, b, v, (wipeE_some e1).1, (wipe_some e2).1, e3⟩
        · rw [e1]
          exact pl.put p9 key
      | false =>
        have q5 : W (i + 1) acc (wipeE E5 vs) := q5
        refine ⟨ds.length - (i + 1), by omega, rfl, hlt, F5, wipeE E5 vs, acc, xs, ((s2.trans s3).trans s4).trans s5, keep r5, ?_, p2.mono ((s3.trans s4).trans s5), q5⟩
        have r9 := r5.wipe vs
        rw [hw4] at r9
        exact r9
    · have e : i = ds.length := by omega
      subst e
      refine .inl ⟨g.stop _ F2 _ H2 E2 r2, ?_⟩
      obtain ⟨r3, w3, hD2⟩ := r2.unhide0 n2 oD
      have r3 : R K O G F2 (L2.wipe σ vs) H2 E2 := ⟨r1.g.trans r3.g, r3.f, r3.o, r3.len, r3.at_, r3.nd⟩
      have r4 := r1.back s2 r3
      refine kv _ _ F2 _ (.own (.dct false acc)) (s1.trans s2) r4 ⟨⟨D, rfl, n2, oD, ⟨xs, hD2, p2⟩⟩, fun a ea w => ?_⟩ (done acc E2 w2)
      cases ea
      obtain ⟨j, b, v, e1, e2, e3⟩ := w
      rcases backE_some e1 with ⟨h1, h2⟩ | ⟨d, h1, _⟩
      · exact w3 ⟨j, b, v, h2, by rw [wipe_at h1]; exact e2, e3⟩
      · subst h1; cases v <;> cases e3
theorem ok_dc {wi : WI} {wg : WG} {wt : WT} {wk we : WE} {vs : List Nat} : EOk K (tDc (tI K wi) (tGv K vs wg) (tT K wt) (tE K wk) (tE K we) vs) (wDc wi wg wt wk we vs) := fun O G F σ H E Q r h => ok_dcK r h fun v H' F' E' b s r' p q => ⟨F', E', b, s, r', p, q⟩
end
section
variable {X : Cx}
theorem ed_dc {kx vx tg iter : Expr} {ifs : List Expr} {scope : Scope} {own : List (Str × Nat)} {pos : Pos} {wi : WI} {wg : WG} {wt : WT} {wk we : WE} {vs : List Nat} (hc : X.calm = true) (hN : X.N.Nodup) (hvs : own.map (·.2) = vs) (hi : ID X tg iter wi) (ok : BlkOk X.N X.env.scope scope own)
    (hg : ∀ (s : Shared) (H : Hp) (C : Addr) (cl : List (Str × Addr)) (fp : List Addr), GvD (X.blk s H scope (compEnvC scope cl C X.env) fp) vs tg wg) (ht : ∀ (s : Shared) (H : Hp) (C : Addr) (cl : List (Str × Addr)) (fp : List Addr), TsD (X.blk s H scope (compEnvC scope cl C X.env) fp) ifs wt)
    (hk : ∀ (s : Shared) (H : Hp) (C : Addr) (cl : List (Str × Addr)) (fp : List Addr), ED (X.blk s H scope (compEnvC scope cl C X.env) fp) kx wk)
    (he : ∀ (s : Shared) (H : Hp) (C : Addr) (cl : List (Str × Addr)) (fp : List Addr), ED (X.blk s H scope (compEnvC scope cl C X.env) fp) vx we) (hs : ∀ x, foldedSetIterable iter X.env x = pure x := by intro _; rfl) :
    ED X (.DictComp kx vx [⟨tg, iter, ifs, 0⟩] scope pos) (wDc wi wg wt wk we vs) := by
  subst hvs
  exact ed_of (pe_dc hc hN hi ok hg ht hk he hs) ok_dc
end
section
variable {E : En} {Q : B → En → Prop} {t : WT} {wk we : WE} {wg : WG} {wi : WI} {vs : List Nat} {ds : List D} {R : Prop}
instance [e : Ev (wi E fun ds E1 => dcK wg t wk we vs ds E1 Q) R] : Ev (wDc wi wg t wk we vs E Q) R := ⟨fun h => e.h h⟩
/-- keys f, values g of each item, no test; the state comes back -/
def kvD (f g : D → D) (ds : List D) : List (D × D) := ds.foldl (fun acc d => putD acc (f d) (g d)) []
def dW (f g : D → D) (ds : List D) (E0 : En) : Nat → List (D × D) → En → Prop := fun i acc E' => acc = kvD f g (ds.take i) ∧ acc.length ≤ i ∧ E' = E0
def ddK (f g : D → D) (ds : List D) (vs : List Nat) (E0 : En) (i : Nat) (k y : B) (E5 : En) : Prop := keyOk false k.d = true ∧ (kvD f g (ds.take i)).length < 16777216 ∧ dW f g ds E0 (i + 1) (putD (kvD f g (ds.take i)) k.d y.d) (wipeE E5 vs)
theorem putD_len (kd : List (D × D)) (k v : D) : (putD kd k v).length ≤ kd.length + 1 := by
  unfold putD; split <;> simp
theorem kvD_len (f g : D → D) (ds : List D) : (kvD f g ds).length ≤ ds.length := by
  have : ∀ (l : List D) (acc : List (D × D)), (l.foldl (fun acc d => putD acc (f d) (g d)) acc).length ≤ acc.length + l.length := by
    intro l
    induction l with
    | nil => intro acc; simp
    | cons d l ih =>
      intro acc
      rw [List.foldl_cons, List.length_cons]
      have h1 := ih (putD acc (f d) (g d))
      have h2 := putD_len acc (f d) (g d)
      omega
  have := this ds []
  simpa [kvD] using this
theorem x_dcM (f g : D → D) {E0 E9 : En} [e0 : WipeC E vs E0] [e9 : BackC E0 E vs E9] (hs : ∀ (i : Nat) (d : D), ds[i]? = some d → wg d E0 fun E2 => t E2 fun b E3 => if b = true then wk E3 fun k E4 => we E4 (ddK f g ds vs E0 i k) else dW f g ds E0 (i + 1) (kvD f g (ds.take i)) (wipeE E3 vs))
    (hd : Q (.own (.dct false (kvD f g ds))) E9) : dcK wg t wk we vs ds E Q := by
  refine ⟨dW f g ds E0, ⟨rfl, Nat.le_refl _, e0.h⟩, ?_, ?_⟩
  · rintro i d acc E' hi ⟨rfl, _, rfl⟩
    have := hs i d hi
    exact this
  · rintro acc E' ⟨rfl, _, rfl⟩
    rw [e9.h, List.take_length]; exact hd
end
/-! ### distinct keys -/
theorem kvD_distinct (f g : D → D) : ∀ (ds : List D), (ds.Pairwise fun a b => eqD (f a) (f b) = false) → kvD f g ds = ds.map fun d => (f d, g d) := by
  have gen : ∀ (ds : List D) (acc : List (D × D)), (ds.Pairwise fun a b => eqD (f a) (f b) = false) → (∀ p ∈ acc, ∀ d ∈ ds, eqD p.1 (f d) = false) → ds.foldl (fun acc d => putD acc (f d) (g d)) acc = acc ++ ds.map fun d => (f d, g d) := by
    intro ds
    induction ds with
    | nil => intro acc _ _; simp
    | cons d ds ih =>
      intro acc hp ha
      obtain ⟨h1, h2⟩ := List.pairwise_cons.mp hp
      rw [List.foldl_cons]
      have : putD acc (f d) (g d) = acc ++ [(f d, g d)] := by
        unfold putD
        rw [if_neg]
        rw [Bool.not_eq_true, List.any_eq_false]
        intro p hp
        rw [ha p hp d List.mem_cons_self]; decide
      rw [this, ih _ h2, List.map_cons, List.append_assoc]
      · rfl
      · intro p hp e he
        rcases List.mem_append.mp hp with z | z
        · exact ha p z e (List.mem_cons_of_mem _ he)
        · rw [List.mem_singleton.mp z]; exact h1 e he
  intro ds h
  have := gen ds [] h (fun p hp => absurd hp List.not_mem_nil)
  unfold kvD
  rw [this, List.nil_append]
/-! ### enumerate(l) -/
def enumD (ds : List D) : List D := ds.zipIdx.map fun p => .tup [.int (p.2 : Nat), p.1]
theorem enumD_get {ds : List D} {i : Nat} {d : D} (h : (enumD ds)[i]? = some d) : ∃ x, ds[i]? = some x ∧ d = .tup [.int (i : Nat), x] := by
  unfold enumD at h
  rw [List.getElem?_map, List.getElem?_zipIdx] at h
  cases e : ds[i]? with
  | none => rw [e] at h; cases h
  | some x =>
    rw [e] at h
    refine ⟨x, rfl, ?_⟩
    have := (Option.some.inj h).symm
    simpa using this
theorem enumD_len (ds : List D) : (enumD ds).length = ds.length := by unfold enumD; simp
def iEn (w : WE) : WI := fun E Q => w E fun b E1 => ∃ l, b.d = .lst l ∧ Q (enumD l) E1
section
variable {K : PySem.W.Frag} {F1 : Hp}
theorem gives_enum {a : Addr} {ds : List D} {vs : List V} (h : SqL K F1 a vs) (p : RepL K F1 vs ds) : Gives K (Ite K a) F1 (enumD ds) where
  go := fun O F σ H E i r hi => by
    rw [enumD_len] at hi
    obtain ⟨v, e, _⟩ := p.get (List.getElem?_eq_getElem hi)
    exact ⟨vs, v, r.f.sql (r.g.sql h), e⟩
  stop := fun O F σ H E r => ⟨vs, r.f.sql (r.g.sql h), by rw [enumD_len]; exact Nat.le_of_eq p.length⟩
  yld := fun O F σ H E i x H' r hi y => by
    rw [enumD_len] at hi
    obtain ⟨T, x0, ex, hT, eH, y⟩ := y
    subst ex eH
    obtain ⟨v, e, p1⟩ := p.get (List.getElem?_eq_getElem hi)
    have ey := y vs (r.f.sql (r.g.sql h))
    have ex0 : x0 = v := by rw [e] at ey; exact (Option.some.inj ey).symm
    subst ex0
    have r1 : R K O F1 F σ (upd H T (.tup [.int (i : Nat), x0])) E := r.alloc hT
    obtain ⟨F', s', r', e'⟩ := r1.knowTup upd_same
    refine ⟨F', .tup [.int (i : Nat), ds[i]], s', r', .tup e' (.cons (.int _) (.cons ((p1.mono r.g).mono s') .nil)), ?_⟩
    unfold enumD
    rw [List.getElem?_map, List.getElem?_zipIdx, List.getElem?_eq_getElem hi]
    simp
end
section
variable {X : Cx} {e : Expr} {p pos tpos : Pos} {elts : List Expr} {kk : Nat}
def tLstF (K : PySem.W.Frag) (w : WE) : TA := fun σ H Q => ∃ (O G F : Hp) (E : En) (Q' : B → List D → En → Prop), R K O G F σ H E ∧ w E (fun b E1 => ∃ l, b.d = .lst l ∧ Q' b l E1) ∧ ∀ a vs l H' F' E' b, Sub F F' → R K O G F' σ H' E' → SqL K F' a vs → RepL K F' vs l → Q' b l E' → Q [.ref a] H'
theorem pa_lstF {w : WE} (he : ED X e w) (hs : starEach [e] X.env = (false, eval e X.env) :: starEach [] X.env := by rfl) : PA X [e] (tLstF X.K w) := by
  have h := pa_cons he pa_nil hs
  refine ⟨fun pos pins s σ H Q I h2 => ?_⟩
  obtain ⟨O, G, F, E, Q', r, hw, kk⟩ := h2
  refine h.run pos pins s σ H Q I ?_
  refine tE_bind r hw fun v H1 F1 E1 b s1 r1 p1 ⟨l, el, q⟩ => ?_
  obtain ⟨F2, s2, r2, p2⟩ := r1.frz p1
  rw [el] at p2
  cases p2 with
  | lst h p => exact kk _ _ _ _ _ _ _ (s1.trans s2) r2 (SqL.of h) p q
theorem id_enum {w : WE} (hg : Gl X "enumerate") (hm : X.mg "enumerate" = none) (he : ED X e w) (hs : starEach [e] X.env = [(false, eval e X.env)] := by rfl) :
    ID X (.Tuple elts kk tpos) (.Call (.Name "enumerate" p) [e] [] pos) (iEn w) := ⟨fun pins s σ H Rr I h => by
  obtain ⟨O, G, F, E, Q', r, hw, kk⟩ := h
  refine (pi_enum hg hm (pa_lstF he hs) hs).run pins s σ H Rr I ⟨O, G, F, E, fun _ l E1 => Q' (enumD l) E1, r, hw, fun a vs l H' F' E' b sb r' h p q => ?_⟩
  exact ⟨a, vs, rfl, r'.f.sql h, kk _ H' F' E' _ sb r' (gives_enum h p) q⟩⟩
end
section
variable {E : En} {QA : List D → En → Prop} {w : WE} {l : List D} {R : Prop}
def enK (b : B) (E : En) (QA : List D → En → Prop) : Prop := ∃ l, b.d = .lst l ∧ QA (enumD l) E
instance [e : Ev (w E fun b E1 => enK b E1 QA) R] : Ev (iEn w E QA) R := ⟨fun h => e.h h⟩
instance [e : Ev (QA (enumD l) E) R] : Ev (enK (.dat (.lst l)) E QA) R := ⟨fun h => ⟨l, rfl, e.h h⟩⟩
instance [e : Ev (QA (enumD l) E) R] : Ev (enK (.own (.lst l)) E QA) R := ⟨fun h => ⟨l, rfl, e.h h⟩⟩
end
/-! ### sep.join(l) -/
section
variable {K : PySem.W.Frag}
theorem joinD_cons (a s : List Nat) (ss : List (List Nat)) : joinD a (s :: ss) = s ++ ss.flatMap fun t => a ++ t := by
  unfold joinD
  induction ss generalizing s with
  | nil => simp
  | cons t ss ih =>
    rw [List.intersperse_cons₂, List.flatten_cons, List.flatten_cons, ih t, List.flatMap_cons]
    simp
theorem joinD_nil (a : List Nat) : joinD a [] = [] := rfl
theorem joinD_empty (ss : List (List Nat)) : joinD [] ss = ss.flatten := by
  cases ss with
  | nil => rfl
  | cons s ss =>
    rw [joinD_cons, List.flatten_cons]
    congr 1
    show ss.flatMap id = _
    rw [List.flatMap_id]
theorem glue_fold (a : List Nat) : ∀ (ss : List (List Nat)) (acc : Array Nat), ((ss.map mkS).foldl (fun acc p => acc ++ (mkS a).cps ++ p.cps) acc).toList = acc.toList ++ ss.flatMap fun t => a ++ t
  | [], acc => by simp
  | s :: ss, acc => by
    rw [List.map_cons, List.foldl_cons, glue_fold a ss, List.flatMap_cons]
    simp [mkS]
theorem join_mk (a : List Nat) (ss : List (List Nat)) : Txt.join (mkS a) (ss.map mkS) = mkS (joinD a ss) := by
  unfold Txt.join Builtin.Str.glued
  cases ss with
  | nil => rfl
  | cons s ss =>
    rw [joinD_cons]
    refine PySem.Str.ext' (Array.toList_inj.mp ?_)
    show (List.foldl (fun acc (p : PySem.Str) => acc ++ (mkS a).cps ++ p.cps) (mkS s).cps (ss.map mkS)).toList = _
    rw [glue_fold]
theorem strs_vs {F : Hp} : ∀ {vs : List V} {ss : List (List Nat)}, RepL K F vs (ss.map D.str) → vs = (ss.map mkS).map V.str
  | _, [], h => by cases h; rfl
  | _, s :: ss, h => by
    cases h with
    | cons a b =>
      cases a
      rw [strs_vs b]; rfl
theorem k_join : Op2Ok K (fun x y H Q => ∃ a p, ∃ ys : List Str, x = .str a ∧ [y] = [.ref p] ∧ (SqL K H p (ys.map V.str) ∨ SqT K H p (ys.map V.str)) ∧ (ys.map (·.length)).sum + ys.length * a.length ≤ 16777216 ∧ Q (.str (Txt.join a ys)) H) wJoin := by
  intro O G F σ H E x y dx dy Q Q' r hx hy q k
  cases dx with
  | str a =>
    obtain ⟨ss, hy2, hl, q⟩ := q
    have el : ((ss.map mkS).map (·.length)) = ss.map (·.length) := by
      rw [List.map_map]
      apply List.map_congr_left
      intro s _
      exact mkS_length s
    rcases hy2 with e | e
    · subst e
      obtain ⟨p, vs, ey, h1, rp⟩ := hy.lst r.f
      have evs := strs_vs rp
      subst evs
      refine ⟨mkS a, p, ss.map mkS, hx.str, by rw [ey], .inl (SqL.of h1), ?_, ?_⟩
      · rw [el, List.length_map, mkS_length]; exact hl
      · rw [join_mk]; exact k _ _ (.dat r (.str _) q)
    · subst e
      obtain ⟨p, vs, ey, h1, rp⟩ := hy.tup r.f
      have evs := strs_vs rp
      subst evs
      refine ⟨mkS a, p, ss.map mkS, hx.str, by rw [ey], .inr (SqT.of h1), ?_, ?_⟩
      · rw [el, List.length_map, mkS_length]; exact hl
      · rw [join_mk]; exact k _ _ (.dat r (.str _) q)
  | _ => exact (show False from q).elim
end
section
variable {P : B → Prop} {a : List Nat} {l : List D} {ss : List (List Nat)} {R : Prop}
instance [c : StrsC l ss] [e : Ev (P (.dat (.str (joinD a ss)))) R] : Ev (wJoin (.str a) (.lst l) P) ((ss.map (·.length)).sum + ss.length * a.length ≤ 16777216 ∧ R) := ⟨fun h => ⟨ss, .inl (by rw [c.h]), h.1, e.h h.2⟩⟩
end
/-! ### {k: v}, k a tuple -/
section
variable {X : Cx} {pos : Pos}
theorem key1_of {P : Program} {w : World} {H : Hp} {h : Heap} (ok : HOk P w H h) {b : Addr} {ks : List Key} (e : H b = some (.tup (ks.map kV))) : (tupleKind (mixKind P w)).is h ks b := key_of ok e
theorem vv_one {b : Addr} {z : V} : ∀ {ws : List (Value × Value)}, VV [(V.ref b, z)] ws → ∃ v, ws = [(Value.ref b, v)] ∧ RelV z v
  | [(u, v)], .cons r .nil => ⟨v, by rw [show u = Value.ref b from r.1], r.2⟩
def tDisp1T (trs : List (TE × TE)) : TE := fun σ H Q => ∀ p, H p = none → tPairs trs σ (upd H p (.dT [])) fun ps H2 => H2 p = some (.dT []) ∧ ∃ (b : Addr) (ks : List Key) (z : V), ps = [(.ref b, z)] ∧ H2 b = some (.tup (ks.map kV)) ∧ Q (.ref p) (upd H2 p (.dT [(ks, z)]))
theorem pe_disp1T {keys : List (Option Expr)} {values : List Expr} {trs : List (TE × TE)} (hu : X.A.units + 1 < cLine) (h : PPs X pos keys values trs) (hall : keys.all (·.isSome) = true) (hl : keys.length = values.length) (h0 : keys ≠ [])
    (h15 : keys.length ≤ 15) : PE X (.Dict keys values pos) (tDisp1T trs) := by
  refine ⟨fun pins s σ H Q I q => ?_⟩
  have hn := I.hok.fresh (Nat.le_refl s.heap.objs.size)
  have I1 := I.laid (a := s.heap.objs.size) (o := .dT []) (h' := s.heap.push { cls := .type "dict", data := .dict #[] }) (t' := s.toks) (fun _ _ q => Heap.get?_push_of_some _ q) (Nat.le_refl _) (dt_empty s.heap I.big)
  have hnl := pairTrees_length keys values X.env pos hall hl
  have h0' : pairTrees keys values X.env pos ≠ [] := fun e => by
    rw [e] at hnl; exact h0 (List.length_eq_zero_iff.mp hnl.symm)
  rw [arm_eval_Dict, zip_pairTrees keys values X.env pos hall hl, dictDisplay_pairs _ h0' (by omega)]
  refine wpAny_bind (wpAny_standAt (wpAny_bind (wpAny_subDictH (knd := tupleKind (mixKind X.prog X.w)) (Q := fun d s' => wpAny (model X.prog X.w) X.A (pure (Value.ref d)) _ _ s') ?_ (by omega) (thn (h.run pins _ σ _ _ I1 (q _ hn)) fun ws s2 ⟨ps, H2, I2, rel, e, b, ks, z, ep, eb, q2⟩ => ?_))))
  · show X.A.units < cLine
    omega
  · subst ep
    obtain ⟨v, ew, rz⟩ := vv_one rel
    subst ew
    · obtain ⟨_, hd, xs, rel0, dd⟩ := dt_of I2.hok e
      cases rel0
      refine ⟨[(ks, b, v)], ⟨rfl, rfl, key_of I2.hok eb, trivial⟩, dd, fun h' tk dd' hs => wpAny_pure ⟨.ref s.heap.objs.size, _, ?_, rfl, q2⟩⟩
      obtain ⟨o, es, ep, ho, g2, g3, g4, g5, g6⟩ := dd'
      refine d_write (t' := tk) I2 (by rw [e]; exact True.intro) hs ⟨o, ho⟩ ⟨by show 1 ≤ sizeLine; decide, hd, [(ks, b, v)], .cons ⟨rfl, ?_, rz⟩ .nil, o, es, ep, ho, g2, g3, g4, g6⟩
      rw [upd_ne (ne_of eb e (fun z => nomatch z))]
      exact eb
end
section
variable {X : Cx} {pos : Pos}
def dispTK (ps : List (D × D)) (E1 : En) (Q : B → En → Prop) : Prop := match ps with
  | [(k, v)] => keyOk true k = true ∧ Q (.own (.dct true [(k, v)])) E1
  | _ => False
def wDispT (ws : List (WE × WE)) : WE := fun E Q => wPairs ws E fun ps E1 => dispTK ps E1 Q
theorem ed_dispT {keys : List (Option Expr)} {values : List Expr} {ws : List (WE × WE)} (hu : X.A.units + 1 < cLine) (h : PsD X pos keys values ws) (hall : keys.all (·.isSome) = true) (hl : keys.length = values.length) (h0 : keys ≠ []) (h15 : keys.length ≤ 15) : ED X (.Dict keys values pos) (wDispT ws) :=
  ed_of (pe_disp1T hu h hall hl h0 h15) fun O G F σ H E Q r q p hp => by
    have np := r.f.gone hp
    have op := r.oNone hp
    have r1 := (r.alloc (u := .dT []) hp).hide upd_same np (r.notOwned hp)
    refine pairs_ok r1 q fun vs H1 F1 E1 ds s1 r2 p1 q1 => ?_
    have n1 : F1 p = none := by
      rcases (r2.o p _ upd_same).2 with z | z
      · exact z
      · cases z
    cases p1 with
    | nil => exact (show False from q1).elim
    | cons a b c =>
      cases c with
      | cons _ _ _ => exact (show False from q1).elim
      | nil =>
        rename_i k0 v0 dk dv
        obtain ⟨ok, q1⟩ := (show keyOk true dk = true ∧ Q (.own (.dct true [(dk, dv)])) E1 from q1)
        obtain ⟨key, b2, e1, e2, e3⟩ := a.keyT ok
        subst e1 e2
        have hp1 := (r2.o p _ upd_same).1
        obtain ⟨r3, w3⟩ := r2.unhide (u' := .dT [(key, v0)]) n1 op
        refine ⟨hp1, b2, key, v0, rfl, r2.f.tup e3, F1, E1, .own _, s1, r3, ⟨⟨p, rfl, n1, op, Cell.mkT (.cons b .nil)⟩, fun a ea w => ?_⟩, q1⟩
        cases ea
        exact w3 w
end
section
variable {E : En} {Q : B → En → Prop} {ws : List (WE × WE)} {k v : D} {R : Prop}
instance [e : Ev (wPairs ws E fun ps E1 => dispTK ps E1 Q) R] : Ev (wDispT ws E Q) R := ⟨fun h => e.h h⟩
instance [e : Ev (Q (.own (.dct true [(k, v)])) E) R] : Ev (dispTK [(k, v)] E Q) (keyOk true k = true ∧ R) := ⟨fun h => ⟨h.1, e.h h.2⟩⟩
end
/-! ### x.index(y), two texts -/
theorem occ_stay (s sub : Str) (hi : Nat) : ∀ (l : List Nat) (st : Array Nat × Nat), st.fst.size = 1 → (forIn (m := Id) l st (StrLaws.occBody s sub hi 1)).run.fst = st.fst
  | [], st, h => rfl
  | a :: l, st, h => by
    rw [List.forIn_cons]
    unfold StrLaws.occBody
    rw [if_neg (by omega)]
    exact occ_stay s sub hi l _ h
theorem occ_first (s sub : Str) (hi i : Nat) (post : List Nat) (pi : i + sub.length ≤ hi ∧ Builtin.Str.subAt s sub i = true) : ∀ (pre : List Nat) (free : Nat), (∀ j ∈ pre, ¬ (j + sub.length ≤ hi ∧ Builtin.Str.subAt s sub j = true)) → free ≤ i → (forIn (m := Id) (pre ++ i :: post) ((#[] : Array Nat), free) (StrLaws.occBody s sub hi 1)).run.fst = #[i]
  | [], free, _, hf => by
    rw [List.nil_append, List.forIn_cons]
    unfold StrLaws.occBody
    rw [if_pos ⟨⟨⟨by simp, hf⟩, pi.1⟩, pi.2⟩]
    exact occ_stay s sub hi post _ (by simp)
  | a :: pre, free, h, hf => by
    rw [List.cons_append, List.forIn_cons]
    unfold StrLaws.occBody
    rw [if_neg (fun c => h a List.mem_cons_self ⟨c.1.2, c.2⟩)]
    exact occ_first s sub hi i post pi pre free (fun j hj => h j (List.mem_cons_of_mem _ hj)) hf
theorem occ_index {a b : List Nat} {i : Nat} (h1 : i + b.length ≤ a.length) (h2 : (a.drop i).take b.length = b) (h3 : ∀ j, j < i → (a.drop j).take b.length ≠ b) : Builtin.Str.occurrences (mkS a) (mkS b) 0 (mkS a).length 1 = [i] := by
  rw [StrLaws.occ_eq, mkS_length]
  have hr : List.range' 0 (a.length + 1 - 0) = List.range' 0 i ++ i :: List.range' (i + 1) (a.length - i) := by
    rw [show a.length + 1 - 0 = i + (a.length - i + 1) by omega, ← List.range'_append]
    first | done | simp [List.range'_succ]
  have key : ∀ j, Builtin.Str.subAt (mkS a) (mkS b) j = ((a.drop j).take b.length == b) := fun j => by
    rw [StrLaws.subAt_eq, mkS_length]
  rw [hr, occ_first]
  · refine ⟨by rw [mkS_length]; exact h1, by rw [key]; exact beq_iff_eq.mpr h2⟩
  · intro j hj hc
    rw [key] at hc
    exact h3 j (by simpa using List.mem_range'_1.mp hj) (beq_iff_eq.mp hc.2)
  · exact Nat.zero_le _
def wIndexS (x y : D) (Q : B → Prop) : Prop := match x, y with
  | .str a, .str b => ∃ i, i + b.length ≤ a.length ∧ (a.drop i).take b.length = b ∧ (∀ j, j < i → (a.drop j).take b.length ≠ b) ∧ Q (.dat (.int (i : Nat)))
  | _, _ => False
section
variable {K : PySem.W.Frag}
theorem k_indexS : Op2Ok K (fun x y H Q => ∃ a b i rest, x = .str a ∧ [y] = [.str b] ∧ Builtin.Str.occurrences a b 0 a.length 1 = i :: rest ∧ Q (.int (i : Nat)) H) wIndexS := by
  intro O G F σ H E x y dx dy Q Q' r hx hy q k
  cases dx with
  | str a =>
    cases dy with
    | str b =>
      obtain ⟨i, h1, h2, h3, q⟩ := q
      exact ⟨mkS a, mkS b, i, [], hx.str, by rw [hy.str], occ_index h1 h2 h3, k _ _ (.dat r (.int _) q)⟩
    | _ => exact (show False from q).elim
  | _ => exact (show False from q).elim
end
section
variable {P : B → Prop} {a b : List Nat} {RN : Nat → Prop}
instance [e : ∀ i : Nat, Ev (P (.dat (.int (i : Nat)))) (RN i)] : Ev (wIndexS (.str a) (.str b) P) (∃ i : Nat, i + b.length ≤ a.length ∧ (a.drop i).take b.length = b ∧ (∀ j, j < i → (a.drop j).take b.length ≠ b) ∧ RN i) := ⟨fun ⟨i, h1, h2, h3, h⟩ => ⟨i, h1, h2, h3, (e i).h h⟩⟩
end
section
variable {P : B → Prop} {l : List D} {ns : List Int} {RM : Int → Prop}
instance [c : IntsC l ns] [e : ∀ m, Ev (P (.dat (.int m))) (RM m)] : Ev (wMin (.lst l) P) (0 < ns.length ∧ ∀ m, m ∈ ns → (∀ y, y ∈ ns → m ≤ y) → RM m) := ⟨fun h => ⟨ns, c.h, h.1, fun m h1 h2 => (e m).h (h.2 m h1 h2)⟩⟩
end
theorem ddK_c {f g : D → D} {ds : List D} {vs : List Nat} {E0 E5 : En} {i : Nat} {kb yb : B} {d k y : D} (hi : ds[i]? = some d) (hl : ds.length ≤ 16777216) [dk : DtC kb k] [dy : DtC yb y] [hw : WipeC E5 vs E0] (hk : keyOk false k = true) (hkf : k = f d) (hyg : y = g d) : ddK f g ds vs E0 i kb yb E5 := by
  have h1 := kvD_len f g (ds.take i)
  rw [List.length_take] at h1
  have h2 := (List.getElem?_eq_some_iff.mp hi).1
  refine ⟨by rw [dk.h]; exact hk, by omega, ?_, ?_, hw.h⟩
  · rw [dk.h, dy.h, hkf, hyg]
    unfold kvD
    rw [take_snoc hi, List.foldl_append]; rfl
  · have := putD_len (kvD f g (ds.take i)) kb.d yb.d
    omega
theorem enum_pw {f : D → D} {xs : List D} (h : ∀ i j a b, i < j → xs[i]? = some a → xs[j]? = some b → eqD (f (.tup [.int (i : Nat), a])) (f (.tup [.int (j : Nat), b])) = false) : (enumD xs).Pairwise fun a b => eqD (f a) (f b) = false := by
  rw [List.pairwise_iff_getElem]
  intro i j hi hj hij
  obtain ⟨a, ha, ea⟩ := enumD_get (List.getElem?_eq_getElem hi)
  obtain ⟨b, hb, eb⟩ := enumD_get (List.getElem?_eq_getElem hj)
  rw [ea, eb]
  exact h i j a b hij ha hb
/-! ### str(i), str(s) -/
def rStrG : List V → Hp → VK → Prop := fun xs H Q => (∃ i, xs = [.int i] ∧ i.natAbs.log2 < 1920 ∧ Q (.str (toString i)) H) ∨ ∃ a, xs = [.str a] ∧ Q (.str a) H
section
variable {X : Cx} {K : PySem.W.Frag}
theorem call_strG : CallR X (.type "str") rStrG := by
  intro pins s σ H xs us Q I r h
  rcases h with h | h
  · exact call_str_int pins s σ H xs us Q I r h
  · exact SkE.call_str_str pins s σ H xs us Q I r h
theorem k_str : Op1Ok K (fun x H Q => rStrG [x] H Q) wStr := by
  intro O G F σ H E x dx Q Q' r hx q k
  cases dx with
  | int i =>
    obtain ⟨hl, q⟩ := q
    refine .inl ⟨i, by rw [hx.int], hl, ?_⟩
    have e : (toString i : Str) = mkS (toString i : Str).cps.toList := rfl
    rw [e]
    exact k _ _ (.dat r (.str _) q)
  | str s => exact .inr ⟨mkS s, by rw [hx.str], k _ _ (.dat r (.str s) q)⟩
  | _ => exact (show False from q).elim
end
/-! ### name = {..} on one line, the name a local -/
section
variable {X : Cx}
theorem ps_setDc {i : Nat} {y : Str} {py : Pos} {kx vx tg iter : Expr} {ifs : List Expr} {scope : Scope} {own : List (Str × Nat)} {pos spos : Pos} {wi : TI} {g : TG} {tt : TT} {tk te : TE} (hc : X.calm = true) (hN : X.N.Nodup) (hy : X.N[i]? = some y) (hyl : X.env.scope.names.lookup y = some .local)
    (hsw : swapsWith (.DictComp kx vx [⟨tg, iter, ifs, 0⟩] scope pos) (some (.Name y py)) spos.line X.env = pure true) (hi : PI X tg iter wi) (ok : BlkOk X.N X.env.scope scope own)
    (hg : ∀ (s : Shared) (H : Hp) (C : Addr) (cl : List (Str × Addr)) (fp : List Addr), PG (X.blk s H scope (compEnvC scope cl C X.env) fp) tg g) (ht : ∀ (s : Shared) (H : Hp) (C : Addr) (cl : List (Str × Addr)) (fp : List Addr), PTs (X.blk s H scope (compEnvC scope cl C X.env) fp) ifs tt)
    (hk : ∀ (s : Shared) (H : Hp) (C : Addr) (cl : List (Str × Addr)) (fp : List Addr), PE (X.blk s H scope (compEnvC scope cl C X.env) fp) kx tk)
    (he : ∀ (s : Shared) (H : Hp) (C : Addr) (cl : List (Str × Addr)) (fp : List Addr), PE (X.blk s H scope (compEnvC scope cl C X.env) fp) vx te) (hs : ∀ x, foldedSetIterable iter X.env x = pure x := by intro _; rfl) :
    PS X (.Assign [.Name y py] (.DictComp kx vx [⟨tg, iter, ifs, 0⟩] scope pos) spos) (tAsg (tDc wi g tt tk te (own.map (·.2))) (gName i)) := by
  refine ⟨fun pins s σ H D I h => ?_⟩
  rw [exec_Assign_Name_used _ _ _ _ hsw]
  refine wpAny_bind (wpAny_standAt (wpAny_bind ?_))
  show wpAny _ X.A (do let _ ← comprehension (.DictComp kx vx [⟨tg, iter, ifs, 0⟩] scope pos) scope X.env (firstIterPos [⟨tg, iter, ifs, 0⟩] pos) newDict false (eval iter X.env) (some (assign (.Name y py) X.env))) _ _ s
  have h : tDc wi g tt tk te (own.map (·.2)) σ H (fun x H1 => gName i x σ H1 D.nx) := h
  refine wpAny_bind (thn (dc_core (Qf := fun _ s' => SP X pins D .next s') hc hN I hi ok hg ht hk he hs h fun L C s' m H' I' q hn f => ?_) fun _ s' hq => wpAny_pure (wpAny_pure hq))
  show wpAny _ _ (assign (.Name y py) X.env (.ref L)) _ _ _
  refine wpAny_assign_Name (store_ok2 (v := V.ref L) I' hN hy (.inl hyl) rfl (fun s2 I2 ⟨a, sb, ha⟩ => ?_) (.inr hyl))
  obtain ⟨f0, f1, f2, f3, f4, f5⟩ := f
  have haC : C ≠ a := by
    rcases ha with z | z
    · rw [z]; exact f1
    · exact fun e => f4 y a z e.symm
  refine ⟨m, hn.sameBut sb haC, fun h3 sb3 => ?_⟩
  exact ⟨_, H', I2.turned (t' := s2.toks) (fun b o hb e => (sb3.2 b hb).trans e) f0 f1 f3 f4 f5, q⟩
theorem sw_trueD {kx vx : Expr} {gs : List Comprehension} {scope : Scope} {pos py : Pos} {y : Str} {l : Nat} {env : Env} (hk : env.scope.kind = .function) (hy : env.scope.names.lookup y = some .local) (hl : (py.line == pos.line) = true)
    (ha : (scope.names.any fun (n, k) => n == y && (k == .local || k == .cell)) = false) : swapsWith (.DictComp kx vx gs scope pos) (some (.Name y py)) l env = pure true := by
  have ky : env.kindOf y = some .local := hy
  have hb : env.blockKind = .function := by unfold Env.blockKind; rw [hk]; rfl
  unfold swapsWith
  simp only [hb, ky, ha, Expr.pos, hl]
  rfl
theorem sd_setDc {i : Nat} {y : Str} {py : Pos} {kx vx tg iter : Expr} {ifs : List Expr} {scope : Scope} {own : List (Str × Nat)} {pos spos : Pos} {wi : WI} {wg : WG} {wt : WT} {wk we : WE} {vs : List Nat} (hc : X.calm = true) (hN : X.N.Nodup) (hvs : own.map (·.2) = vs) (hy : X.N[i]? = some y) (hyl : X.env.scope.names.lookup y = some .local)
    (hsw : swapsWith (.DictComp kx vx [⟨tg, iter, ifs, 0⟩] scope pos) (some (.Name y py)) spos.line X.env = pure true) (hi : ID X tg iter wi) (ok : BlkOk X.N X.env.scope scope own)
    (hg : ∀ (s : Shared) (H : Hp) (C : Addr) (cl : List (Str × Addr)) (fp : List Addr), GvD (X.blk s H scope (compEnvC scope cl C X.env) fp) vs tg wg) (ht : ∀ (s : Shared) (H : Hp) (C : Addr) (cl : List (Str × Addr)) (fp : List Addr), TsD (X.blk s H scope (compEnvC scope cl C X.env) fp) ifs wt)
    (hk : ∀ (s : Shared) (H : Hp) (C : Addr) (cl : List (Str × Addr)) (fp : List Addr), ED (X.blk s H scope (compEnvC scope cl C X.env) fp) kx wk)
    (he : ∀ (s : Shared) (H : Hp) (C : Addr) (cl : List (Str × Addr)) (fp : List Addr), ED (X.blk s H scope (compEnvC scope cl C X.env) fp) vx we) (hs : ∀ x, foldedSetIterable iter X.env x = pure x := by intro _; rfl) :
    SD X (.Assign [.Name y py] (.DictComp kx vx [⟨tg, iter, ifs, 0⟩] scope pos) spos) (sSet i (wDc wi wg wt wk we vs)) := by
  subst hvs
  refine sd_of (ps_setDc (g := tGv X.K (own.map (·.2)) wg) (tt := tT X.K wt) (tk := tE X.K wk) (te := tE X.K we) hc hN hy hyl hsw hi ok hg ht hk he hs) fun O G F σ H E D D' en r h => ?_
  exact ok_dcK r h fun v H' F' E' b s r' p q => en.nx _ _ _ _ (r'.set i p) q
end
end PW

set_option Elab.async false
set_option linter.all false
set_option autoImplicit false
set_option maxRecDepth 100000
set_option maxHeartbeats 4000000
set_option synthInstance.maxHeartbeats 2000000
set_option synthInstance.maxSize 1000000
namespace PW
open PySem PySem.Spec PyProof.Rows L2
/-! ### automata -/
abbrev Stt := Nat × List Wo
abbrev Aut := List (Wo × Stt)
def encSt (p : Stt) : D := .tup [.str [p.1], .lst (p.2.map D.str)]
abbrev autD (s : Wo) (m : Aut) : D := .tup [.str s, .dct false (kdD encSt m)]
def lett (m : Aut) (x : Wo) : Nat := ((lk m x).map (·.1)).getD 0
def stps (m : Aut) (x : Wo) : List Wo := ((lk m x).map (·.2)).getD []
def nxt (m : Aut) (x : Wo) (d : Nat) : Wo := ((stps m x)[d]?).getD []
def nms (m : Aut) : List Wo := m.map (·.1)
structure AutW (b : Nat) (s : Wo) (m : Aut) (k : Nat) : Prop where
  nd : (nms m).Nodup
  le : m.length ≤ k
  st : s ∈ nms m
  cl : ∀ p ∈ m, p.2.2.length = b ∧ ∀ x ∈ p.2.2, x ∈ nms m
theorem lk_get {α : Type} : ∀ {m : List (Wo × α)} {x : Wo}, x ∈ m.map (·.1) → ∃ v, lk m x = some v ∧ (x, v) ∈ m
  | m, x, h => by
    unfold lk
    obtain ⟨p, hp, rfl⟩ := List.mem_map.mp h
    cases e : m.find? fun q => decide (q.1 = p.1) with
    | none => 
      have := List.find?_eq_none.mp e p hp
      simp at this
    | some q =>
      have h1 := List.find?_some e
      have h2 := List.mem_of_find?_eq_some e
      refine ⟨q.2, rfl, ?_⟩
      rw [← of_decide_eq_true h1]; exact h2
theorem AutW.get {b k : Nat} {s : Wo} {m : Aut} (h : AutW b s m k) {x : Wo} (hx : x ∈ nms m) : lk m x = some (lett m x, stps m x) ∧ (stps m x).length = b ∧ ∀ y ∈ stps m x, y ∈ nms m := by
  obtain ⟨v, h1, h2⟩ := lk_get hx
  have := h.cl _ h2
  unfold lett stps
  rw [h1]
  exact ⟨rfl, this.1, this.2⟩
theorem AutW.nxt {b k : Nat} {s : Wo} {m : Aut} (h : AutW b s m k) {x : Wo} (hx : x ∈ nms m) {d : Nat} (hd : d < b) : (stps m x)[d]? = some (nxt m x d) ∧ nxt m x d ∈ nms m := by
  obtain ⟨_, h2, h3⟩ := h.get hx
  have hlt : d < (stps m x).length := by omega
  unfold PW.nxt
  rw [List.getElem?_eq_getElem hlt]
  exact ⟨rfl, h3 _ (List.getElem_mem hlt)⟩
def digs (b n : Nat) : List Nat := if h : n = 0 ∨ b < 2 then [] else digs b (n / b) ++ [n % b]
termination_by n
decreasing_by exact Nat.div_lt_self (by omega) (by omega)
theorem digs_0 (b : Nat) : digs b 0 = [] := by rw [digs]; simp
theorem digs_s {b n : Nat} (hb : 2 ≤ b) (hn : 0 < n) : digs b n = digs b (n / b) ++ [n % b] := by rw [digs, dif_neg (by omega)]
theorem digs_lt {b : Nat} (hb : 2 ≤ b) : ∀ n, ∀ d ∈ digs b n, d < b := fun n => by
  induction n using Nat.strongRecOn with
  | ind n ih =>
    intro d hd
    rcases Nat.eq_zero_or_pos n with e | e
    · rw [e, digs_0] at hd; cases hd
    · rw [digs_s hb e] at hd
      rcases List.mem_append.mp hd with z | z
      · exact ih (n / b) (Nat.div_lt_self e hb) d z
      · rw [List.mem_singleton.mp z]; exact Nat.mod_lt _ (by omega)
theorem digs_len {b : Nat} (hb : 2 ≤ b) : ∀ k n, n < 2 ^ k → (digs b n).length ≤ k
  | 0, n, h => by
    have : n = 0 := by simpa using h
    rw [this, digs_0]; simp
  | k + 1, n, h => by
    rcases Nat.eq_zero_or_pos n with e | e
    · rw [e, digs_0]; simp
    · rw [digs_s hb e, List.length_append, List.length_singleton]
      have h1 : n / b ≤ n / 2 := Nat.div_le_div_left hb (by decide)
      rw [Nat.pow_succ] at h
      have := digs_len hb k (n / b) (by omega)
      omega
def sa (b : Nat) (s : Wo) (m : Aut) (n : Nat) : Wo := (digs b n).foldl (nxt m) s
theorem sa_0 (b : Nat) (s : Wo) (m : Aut) : sa b s m 0 = s := by unfold sa; rw [digs_0]; rfl
theorem fold_mem {b k : Nat} {s : Wo} {m : Aut} (h : AutW b s m k) : ∀ {l : List Nat} {x : Wo}, x ∈ nms m → (∀ d ∈ l, d < b) → l.foldl (nxt m) x ∈ nms m
  | [], x, hx, _ => hx
  | d :: l, x, hx, hl => (show l.foldl (nxt m) (nxt m x d) ∈ nms m from fold_mem (l := l) (x := nxt m x d) h (h.nxt hx (hl d List.mem_cons_self)).2 fun e he => hl e (List.mem_cons_of_mem _ he))
theorem AutW.sa {b k : Nat} {s : Wo} {m : Aut} (h : AutW b s m k) (hb : 2 ≤ b) (n : Nat) : sa b s m n ∈ nms m := fold_mem h h.st (digs_lt hb n)
/-- the first state keeps itself at 0 -/
def Loops (s : Wo) (m : Aut) : Prop := nxt m s 0 = s
theorem sa_step {b : Nat} {s : Wo} {m : Aut} (hb : 2 ≤ b) (hz : Loops s m) (n d : Nat) (hd : d < b) : sa b s m (b * n + d) = nxt m (sa b s m n) d := by
  rcases Nat.eq_zero_or_pos (b * n + d) with e | e
  · have h1 : d = 0 := by omega
    have h2 : n = 0 := by
      rcases Nat.eq_zero_or_pos n with z | z
      · exact z
      · have := Nat.mul_pos (show 0 < b by omega) z; omega
    rw [h1, h2, Nat.mul_zero, sa_0]; exact hz.symm
  · have h1 : (b * n + d) / b = n := by rw [Nat.mul_add_div (by omega), Nat.div_eq_of_lt hd, Nat.add_zero]
    have h2 : (b * n + d) % b = d := by rw [Nat.mul_add_mod, Nat.mod_eq_of_lt hd]
    unfold sa
    rw [digs_s hb e, h1, h2, List.foldl_append]; rfl
/-! the states reached -/
def addAll (F : List Wo) (xs : List Wo) : List Wo := xs.foldl (fun F x => if x ∈ F then F else F ++ [x]) F
def rch (m : Aut) : Nat → List Wo → Nat → List Wo
  | 0, F, _ => F
  | f + 1, F, a => if h : a < F.length then rch m f (addAll F (stps m F[a])) (a + 1) else F
theorem addAll_ex (xs : List Wo) : ∀ F : List Wo, ∃ T, addAll F xs = F ++ T := by
  induction xs with
  | nil => exact fun F => ⟨[], (List.append_nil F).symm⟩
  | cons x xs ih =>
    intro F
    unfold addAll
    rw [List.foldl_cons]
    split
    · exact ih F
    · obtain ⟨T, e⟩ := ih (F ++ [x])
      exact ⟨[x] ++ T, by rw [← List.append_assoc]; exact e⟩
theorem addAll_nd (xs : List Wo) : ∀ F : List Wo, F.Nodup → (addAll F xs).Nodup ∧ ∀ y, y ∈ addAll F xs ↔ y ∈ F ∨ y ∈ xs := by
  induction xs with
  | nil => exact fun F h => ⟨h, fun y => by simp [addAll]⟩
  | cons x xs ih =>
    intro F h
    unfold addAll
    rw [List.foldl_cons]
    split
    · rename_i hx
      obtain ⟨h1, h2⟩ := ih F h
      refine ⟨h1, fun y => ?_⟩
      rw [List.mem_cons]
      refine (h2 y).trans ⟨fun z => z.elim .inl (fun z => .inr (.inr z)), fun z => ?_⟩
      rcases z with z | z | z
      · exact .inl z
      · rw [z]; exact .inl hx
      · exact .inr z
    · rename_i hx
      obtain ⟨h1, h2⟩ := ih (F ++ [x]) (List.nodup_append.mpr ⟨h, by simp, fun a ha b hb z => hx (by rw [List.mem_singleton.mp hb] at z; rw [← z]; exact ha)⟩)
      refine ⟨h1, fun y => ?_⟩
      rw [List.mem_cons]
      refine (h2 y).trans ?_
      rw [List.mem_append, List.mem_singleton]
      exact ⟨fun z => z.elim (fun z => z.elim .inl fun z => .inr (.inl z)) fun z => .inr (.inr z), fun z => z.elim (fun z => .inl (.inl z)) fun z => z.elim (fun z => .inl (.inr z)) .inr⟩
structure RchW (m : Aut) (s : Wo) (R : List Wo) : Prop where
  nd : R.Nodup
  hd : R.head? = some s
  sub : ∀ x ∈ R, x ∈ nms m
  cl : ∀ x ∈ R, ∀ y ∈ stps m x, y ∈ R
theorem rch_ok {b k : Nat} {s : Wo} {m : Aut} (h : AutW b s m k) : ∀ (f : Nat) (F : List Wo) (a : Nat), F.Nodup → F.head? = some s → (∀ x ∈ F, x ∈ nms m) → (∀ j x, j < a → F[j]? = some x → ∀ y ∈ stps m x, y ∈ F) → a ≤ F.length → m.length < f + a → RchW m s (rch m f F a)
  | 0, F, a, nd, hh, hs, hc, hl, hf => by
    have := nodup_len nd hs
    unfold nms at this
    rw [List.length_map] at this
    omega
  | f + 1, F, a, nd, hh, hs, hc, hl, hf => by
    unfold rch
    split
    · rename_i hlt
      obtain ⟨h1, h2⟩ := addAll_nd (stps m F[a]) F nd
      obtain ⟨T, hT⟩ := addAll_ex (stps m F[a]) F
      have hg := h.get (hs _ (List.getElem_mem hlt))
      refine rch_ok h f _ (a + 1) h1 ?_ ?_ ?_ ?_ (by omega)
      · rw [hT]
        cases F with
        | nil => cases hh
        | cons x F => exact hh
      · intro x hx
        rcases (h2 x).mp hx with z | z
        · exact hs x z
        · exact hg.2.2 x z
      · intro j x hj hx y hy
        rw [hT, List.getElem?_append_left (by omega)] at hx
        rcases Nat.lt_or_ge j a with z | z
        · exact (h2 y).mpr (.inl (hc j x z hx y hy))
        · have e : j = a := by omega
          subst e
          rw [List.getElem?_eq_getElem hlt] at hx
          cases hx
          exact (h2 y).mpr (.inr hy)
      · rw [hT, List.length_append]; omega
    · rename_i hge
      refine ⟨nd, hh, hs, fun x hx y hy => ?_⟩
      obtain ⟨j, hj, ej⟩ := List.getElem_of_mem hx
      exact hc j x (by omega) (by rw [List.getElem?_eq_getElem hj, ej]) y hy
def rchS (m : Aut) (s : Wo) : List Wo := rch m (m.length + 1) [s] 0
theorem rchS_ok {b k : Nat} {s : Wo} {m : Aut} (h : AutW b s m k) : RchW m s (rchS m s) :=
  rch_ok h _ [s] 0 (by simp) rfl (fun x hx => by rw [List.mem_singleton.mp hx]; exact h.st) (fun j x hj => by omega) (by simp) (by omega)
/-! ### what the shared defs promise -/
def f_digits_of : D → D → (B → Prop) → Prop := fun b n P => ∃ b' n' : Nat, b = .int b' ∧ n = .int n' ∧ 2 ≤ b' ∧ b' ≤ 1000 ∧ n' < 2 ^ 1900 ∧ P (.own (.lst ((digs b' n').map fun d => D.int (d : Nat))))
def f__law_digits := f_digits_of
def f_letter_at : D → D → D → (B → Prop) → Prop := fun b a n P => ∃ (b' n' k : Nat) (s : Wo) (m : Aut), b = .int b' ∧ n = .int n' ∧ a = autD s m ∧ AutW b' s m k ∧ 2 ≤ b' ∧ b' ≤ 1000 ∧ n' < 2 ^ 1900 ∧ P (.dat (.str [lett m (sa b' s m n')]))
def f__law_letter := f_letter_at
def f_reached : D → (B → Prop) → Prop := fun a P => ∃ (b k : Nat) (s : Wo) (m : Aut), a = autD s m ∧ AutW b s m k ∧ k ≤ 10000 ∧ b ≤ 1000 ∧ P (.own (.lst ((rchS m s).map D.str)))
def f__law_reached := f_reached
def f__law_row : D → D → D → (B → Prop) → Prop := fun b a n P => ∃ (b' n' k : Nat) (s : Wo) (m : Aut), b = .int b' ∧ n = .int n' ∧ a = autD s m ∧ AutW b' s m k ∧ 2 ≤ b' ∧ b' ≤ 1000 ∧ n' ≤ 1000 ∧ P (.dat (.str ((List.range n').map fun i => lett m (sa b' s m i))))
/-- the automata that are drawn -/
structure Drawn (b : Nat) (s : Wo) (m : Aut) (k : Nat) : Prop extends AutW b s m k where
  lp : Loops s m
  ab : ∀ x ∈ nms m, ∃ c j : Nat, 97 ≤ c ∧ c ≤ 108 ∧ 48 ≤ j ∧ j ≤ 57 ∧ x = [c, j]
  lt : ∀ p ∈ m, p.2.1 = 120 ∨ p.2.1 = 121 ∨ p.2.1 = 122
def f__law_automaton : D → D → D → (B → D → Prop) → Prop := fun p b k P => isPool p ∧ ∃ b' k' : Nat, b = .int b' ∧ k = .int k' ∧ 2 ≤ b' ∧ b' ≤ 10 ∧ 1 ≤ k' ∧ k' ≤ 9 ∧ ∀ s m d', Drawn b' s m k' → m.length = k' → isPool d' → P (.dat (autD s m)) d'
def N_digits_of : Nat := 3
-- 0:b 1:n 2:found
def w_digits_of : WS :=
  (sSeq (sSet 2 (wLst aN))
  (sSeq (sWhile (wTru (oV 1)) (sSeq (sExpr (wMut1 "list" 2 mAppend (wOp wMod (oV 1) (oV 0))))
  (sSet 1 (wOp wFdiv (oV 1) (oV 0)))))
  (sRet (wUn wRev (oV 2)))))
def N_letter_at : Nat := 6
-- 0:b 1:automaton 2:n 3:here 4:states 5:digit
def w_letter_at : WS :=
  (sSeq (sAsg (wV 1) (gT 2 (gsC (gN 3) (gsC (gN 4) gsN))))
  (sSeq (sFor (iS (wCall (fs2 f_digits_of) (aC (wV 0) (aC (wV 2) aN)))) (gN 5) (sSet 3 (wOp wIx (oE (wOp wIx (oE (wOp wIx (oV 4) (oV 3))) (oE (wC (.int 1))))) (oV 5))))
  (sRet (wOp wIx (oE (wOp wIx (oV 4) (oV 3))) (oE (wC (.int 0)))))))
def N_reached : Nat := 6
-- 0:automaton 1:start 2:states 3:found 4:at 5:name
def w_reached : WS :=
  (sSeq (sAsg (wV 0) (gT 2 (gsC (gN 1) (gsC (gN 2) gsN))))
  (sSeq (sSet 3 (wLst (aC (wV 1) aN)))
  (sSeq (sSet 4 (wC (.int 0)))
  (sSeq (sWhile (wTst (wOp wLt (oV 4) (oE (wUn wLen (oV 3))))) (sSeq (sFor (iS (wOp wIx (oE (wOp wIx (oV 2) (oE (wOp wIx (oV 3) (oV 4))))) (oE (wC (.int 1))))) (gN 5) (sIf (wTst (wOp wNin (oV 5) (oV 3))) (sExpr (wMut1 "list" 3 mAppend (wV 5))) sNext))
  (sSet 4 (wOp wAdd (oV 4) (oE (wC (.int 1)))))))
  (sRet (wM 3))))))
def N__law_automaton : Nat := 9
-- 0:pool 1:b 2:many 3:names 4:k 5:start 6:states 7:name 8:steps
def w__law_automaton : WS :=
  (sSeq (sSet 3 (wLst aN))
  (sSeq (sFor (iR1 (wV 2)) (gN 4) (sExpr (wMut1 "list" 3 mAppend (wOp wAdd (oE (wOp wIx (oE (wC (.str [97, 98, 99, 100, 101, 102, 103, 104, 105, 106, 107, 108]))) (oE (wCallP 0 (ps1 f__law_draw) (aC (wC (.int 12)) aN))))) (oE (wUn wStr (oV 4)))))))
  (sSeq (sSet 5 (wOp wIx (oV 3) (oE (wCallP 0 (ps1 f__law_draw) (aC (wV 2) aN)))))
  (sSeq (sSet 6 (wDct0 false))
  (sSeq (sFor (iS (wV 3)) (gN 7) (sSeq (sExpr (wCallP 0 (ps0 f__law_next) aN))
  (sSeq (sSet 8 (wLc (iR1 (wV 1)) (gN 4) wYes (wCallP 0 (ps1 f__law_pick) (aC (wV 3) aN)) [4]))
  (sJ (sIf (wTst (wOp wEq (oV 7) (oV 5))) (sSub 8 (wC (.int 0)) (wV 5)) sNext)
  (sSub 6 (wV 7) (wTup (aC (wCallP 0 (ps1 f__law_pick) (aC (wLst (aC (wC (.str [120])) (aC (wC (.str [121])) (aC (wC (.str [121])) (aC (wC (.str [122])) aN))))) aN)) (aC (wV 8) aN))))))))
  (sRet (wTup (aC (wV 5) (aC (wV 6) aN)))))))))
def N__law_digits : Nat := 3
-- 0:b 1:n 2:found
def w__law_digits : WS :=
  (sSeq (sSet 2 (wLst aN))
  (sSeq (sWhile (wTst (wOp wGt (oV 1) (oE (wC (.int 0))))) (sSeq (sSet 2 (wOp wAdd (oE (wLst (aC (wOp wMod (oE (wUn wInt (oV 1))) (oV 0)) aN))) (oV 2)))
  (sSet 1 (wOp wFdiv (oV 1) (oV 0)))))
  (sRet (wM 2))))
def N__law_letter : Nat := 5
-- 0:b 1:automaton 2:n 3:here 4:digit
def w__law_letter : WS :=
  (sSeq (sSet 3 (wOp wIx (oV 1) (oE (wC (.int 0)))))
  (sSeq (sFor (iS (wCall (fs2 f__law_digits) (aC (wV 0) (aC (wV 2) aN)))) (gN 4) (sSet 3 (wOp wIx (oE (wOp wIx (oE (wOp wIx (oE (wOp wIx (oV 1) (oE (wC (.int 1))))) (oV 3))) (oE (wC (.int 1))))) (oV 4))))
  (sRet (wOp wIx (oE (wOp wIx (oE (wOp wIx (oV 1) (oE (wC (.int 1))))) (oV 3))) (oE (wC (.int 0)))))))
def N__law_row : Nat := 5
-- 0:b 1:automaton 2:n 3:text 4:k
def w__law_row : WS :=
  (sSeq (sSet 3 (wC (.str [])))
  (sSeq (sFor (iR1 (wV 2)) (gN 4) (sSet 3 (wOp wAdd (oV 3) (oE (wCall (fs3 f__law_letter) (aC (wV 0) (aC (wV 1) (aC (wV 4) aN))))))))
  (sRet (wM 3))))
def N__law_reached : Nat := 4
-- 0:automaton 1:found 2:at 3:name
def w__law_reached : WS :=
  (sSeq (sSet 1 (wLst (aC (wOp wIx (oV 0) (oE (wC (.int 0)))) aN)))
  (sSeq (sSet 2 (wC (.int 0)))
  (sSeq (sWhile (wTst (wOp wLt (oV 2) (oE (wUn wLen (oV 1))))) (sSeq (sFor (iS (wOp wIx (oE (wOp wIx (oE (wOp wIx (oV 0) (oE (wC (.int 1))))) (oE (wOp wIx (oV 1) (oV 2))))) (oE (wC (.int 1))))) (gN 3) (sIf (wTst (wOp wNin (oV 3) (oV 1))) (sExpr (wMut1 "list" 1 mAppend (wV 3))) sNext))
  (sSet 2 (wOp wAdd (oV 2) (oE (wC (.int 1)))))))
  (sRet (wM 1)))))

local macro_rules | `(tactic| walk_at "sta") => `(tactic| with_reducible repeat (first | exact StaR.z | apply StaR.c | apply StaR.n))
local macro_rules | `(tactic| walk_at "start") => `(tactic| with_reducible first | refine LF2 (by walk_at "sta") ?_ | refine LF1 (by walk_at "sta") ?_ | refine LF3 (by walk_at "sta") ?_ | refine LF4 (by walk_at "sta") ?_ | refine LF0 (by walk_at "sta") ?_ | refine LF5 (by walk_at "sta") ?_ | refine LF6 (by walk_at "sta") ?_ | refine LP0 (by walk_at "sta") ?_ | refine LP1 (by walk_at "sta") ?_ | refine LP2 (by walk_at "sta") ?_ | refine LP3 (by walk_at "sta") ?_)
theorem digs_big {b n : Nat} (hb : 2 ≤ b) (hn : n < 2 ^ 1900) : (digs b n).length ≤ 1900 := digs_len hb 1900 n hn
theorem law_digits_of : ∀ a0 a1 Pp, f_digits_of a0 a1 Pp → LF N_digits_of w_digits_of [a0, a1] Pp := by
  rintro a0 a1 Pp ⟨b, n, rfl, rfl, hb, hb2, hn, kk⟩
  unfold N_digits_of w_digits_of
  walk_at "start"
  refine ev_ ?_
  have hl := digs_big hb hn
  refine x_while (fun k E => ∃ t : Nat, k = t ∧ ∃ l : List Nat, digs b n = digs b t ++ l.reverse ∧ E = [some (.dat (.int b)), some (.dat (.int t)), some (.own (.lst (l.map fun d => D.int (d : Nat))))]) _ ⟨n, rfl, [], by simp, rfl⟩ ?_
  rintro k E ⟨t, rfl, l, he, rfl⟩
  refine ev_ ?_
  refine ev_iteB (fun g => ?_) (fun g => ?_)
  · have hk : 0 < k := by have : k ≠ 0 := by simpa using g
                          omega
    have hll : l.length ≤ 1900 := by
      have := congrArg List.length he
      rw [List.length_append, List.length_reverse] at this
      omega
    refine ⟨by omega, by rw [List.length_map]; omega, ⟨by omega, by omega⟩, k / b, Nat.div_lt_self hk hb, k / b, rfl, l ++ [k % b], ?_, by rw [List.map_append]; rfl⟩
    rw [he, digs_s hb hk, List.reverse_append, List.append_assoc]; rfl
  · have hk : k = 0 := by simpa using g
    subst hk
    rw [digs_0, List.nil_append] at he
    refine ev_ ?_
    rw [← List.map_reverse, ← he]
    exact kk
theorem law__law_digits : ∀ a0 a1 Pp, f__law_digits a0 a1 Pp → LF N__law_digits w__law_digits [a0, a1] Pp := by
  rintro a0 a1 Pp ⟨b, n, rfl, rfl, hb, hb2, hn, kk⟩
  unfold N__law_digits w__law_digits
  walk_at "start"
  refine ev_ ?_
  have hl := digs_big hb hn
  refine x_while (fun k E => ∃ t : Nat, k = t ∧ ∃ l : List Nat, digs b n = digs b t ++ l ∧ E = [some (.dat (.int b)), some (.dat (.int t)), some (.own (.lst (l.map fun d => D.int (d : Nat))))]) _ ⟨n, rfl, [], by simp, rfl⟩ ?_
  rintro k E ⟨t, rfl, l, he, rfl⟩
  refine ev_ ?_
  refine ev_ite (fun g => ?_) (fun g => ?_)
  · have hk : 0 < k := by omega
    have hll : l.length ≤ 1900 := by
      have := congrArg List.length he
      rw [List.length_append] at this
      omega
    refine ⟨by omega, by rw [List.length_map]; show 1 + _ ≤ _; omega, ⟨by omega, by omega⟩, k / b, Nat.div_lt_self hk hb, k / b, rfl, k % b :: l, ?_, rfl⟩
    rw [he, digs_s hb hk, List.append_assoc]; rfl
  · have hk : k = 0 := by omega
    subst hk
    rw [digs_0, List.nil_append] at he
    refine ev_ ?_
    rw [← he]
    exact kk
theorem lk_enc {m : Aut} {x : Wo} {v : Stt} (h : lk m x = some v) : lookD (kdD encSt m) (.str x) = some (encSt v) := by rw [lookD_kdD, h]; rfl
theorem law_letter_at : ∀ a0 a1 a2 Pp, f_letter_at a0 a1 a2 Pp → LF N_letter_at w_letter_at [a0, a1, a2] Pp := by
  rintro a0 a1 a2 Pp ⟨b, n, k, s, m, rfl, rfl, rfl, hA, hb, hb2, hn, kk⟩
  unfold N_letter_at w_letter_at autD
  walk_at "start"
  refine ev_ ⟨b, n, rfl, rfl, hb, hb2, hn, ?_⟩
  refine ev_ ?_
  refine x_forK (fun i E => ∃ z, E = [some (.dat (.int b)), some (.dat (autD s m)), some (.dat (.int n)), some (.dat (.str (((digs b n).take i).foldl (nxt m) s))), some (.dat (.dct false (kdD encSt m))), z]) ⟨_, rfl⟩ ?_ ?_
  · rintro i d E hi ⟨z, rfl⟩
    obtain ⟨c, hc, rfl⟩ := map_get hi
    have hx := fold_mem hA (l := (digs b n).take i) hA.st fun d hd => digs_lt hb n d (List.mem_of_mem_take hd)
    have hcb := digs_lt hb n c (List.mem_of_getElem? hc)
    generalize hxx : ((digs b n).take i).foldl (nxt m) s = x at hx ⊢
    obtain ⟨g1, g2, g3⟩ := hA.get hx
    obtain ⟨n1, n2⟩ := hA.nxt hx hcb
    refine ev_ ⟨rfl, _, lk_enc g1, ?_⟩
    rw [show encSt (lett m x, stps m x) = .tup [.str [lett m x], .lst ((stps m x).map D.str)] from rfl]
    refine ev_ ⟨nxt m x c, by rw [atI_nat]; exact n1, some (.dat (.int (c : Nat))), ?_⟩
    rw [take_snoc hc, List.foldl_append, hxx]; rfl
  · rintro E ⟨z, rfl⟩
    rw [List.length_map, List.take_length]
    have hx := hA.sa hb n
    obtain ⟨g1, g2, g3⟩ := hA.get hx
    refine ev_ ⟨rfl, _, lk_enc g1, ?_⟩
    rw [show encSt (lett m (sa b s m n), stps m (sa b s m n)) = .tup [.str [lett m (sa b s m n)], .lst ((stps m (sa b s m n)).map D.str)] from rfl]
    exact ev_ kk
theorem law__law_letter : ∀ a0 a1 a2 Pp, f__law_letter a0 a1 a2 Pp → LF N__law_letter w__law_letter [a0, a1, a2] Pp := by
  rintro a0 a1 a2 Pp ⟨b, n, k, s, m, rfl, rfl, rfl, hA, hb, hb2, hn, kk⟩
  unfold N__law_letter w__law_letter autD
  walk_at "start"
  refine ev_ ⟨b, n, rfl, rfl, hb, hb2, hn, ?_⟩
  refine ev_ ?_
  refine x_forK (fun i E => ∃ z, E = [some (.dat (.int b)), some (.dat (autD s m)), some (.dat (.int n)), some (.dat (.str (((digs b n).take i).foldl (nxt m) s))), z]) ⟨_, rfl⟩ ?_ ?_
  · rintro i d E hi ⟨z, rfl⟩
    obtain ⟨c, hc, rfl⟩ := map_get hi
    have hx := fold_mem hA (l := (digs b n).take i) hA.st fun d hd => digs_lt hb n d (List.mem_of_mem_take hd)
    have hcb := digs_lt hb n c (List.mem_of_getElem? hc)
    generalize hxx : ((digs b n).take i).foldl (nxt m) s = x at hx ⊢
    obtain ⟨g1, g2, g3⟩ := hA.get hx
    obtain ⟨n1, n2⟩ := hA.nxt hx hcb
    refine ev_ ⟨rfl, _, lk_enc g1, ?_⟩
    rw [show encSt (lett m x, stps m x) = .tup [.str [lett m x], .lst ((stps m x).map D.str)] from rfl]
    refine ev_ ⟨nxt m x c, by rw [atI_nat]; exact n1, some (.dat (.int (c : Nat))), ?_⟩
    rw [take_snoc hc, List.foldl_append, hxx]; rfl
  · rintro E ⟨z, rfl⟩
    rw [List.length_map, List.take_length]
    have hx := hA.sa hb n
    obtain ⟨g1, g2, g3⟩ := hA.get hx
    refine ev_ ⟨rfl, _, lk_enc g1, ?_⟩
    rw [show encSt (lett m (sa b s m n), stps m (sa b s m n)) = .tup [.str [lett m (sa b s m n)], .lst ((stps m (sa b s m n)).map D.str)] from rfl]
    exact ev_ kk
theorem law__law_row : ∀ a0 a1 a2 Pp, f__law_row a0 a1 a2 Pp → LF N__law_row w__law_row [a0, a1, a2] Pp := by
  rintro a0 a1 a2 Pp ⟨b, n, k, s, m, rfl, rfl, rfl, hA, hb, hb2, hn, kk⟩
  unfold N__law_row w__law_row autD
  walk_at "start"
  refine ev_ ⟨⟨by omega, by omega⟩, ?_⟩
  refine x_forK (fun i E => ∃ z, E = [some (.dat (.int b)), some (.dat (autD s m)), some (.dat (.int n)), some (.dat (.str ((List.range i).map fun i => lett m (sa b s m i)))), z]) ⟨_, rfl⟩ ?_ ?_
  · rintro i d E hi ⟨z, rfl⟩
    obtain ⟨hlt, rfl⟩ := rng_get hi
    have hn2 : i < 2 ^ 1900 := Nat.lt_of_lt_of_le (show i < 2 ^ 10 by omega) (Nat.pow_le_pow_right (by decide) (by decide))
    refine ev_ ⟨b, i, k, s, m, rfl, by congr 1; omega, rfl, hA, hb, hb2, hn2, ?_⟩
    refine ev_ ⟨by rw [List.length_map, List.length_range]; show i + 1 ≤ _; omega, some (.dat (.int (0 + (i : Int)))), ?_⟩
    rw [List.range_succ, List.map_append]; rfl
  · rintro E ⟨z, rfl⟩
    rw [rng_len, show ((n : Int)).toNat = n by omega]
    exact ev_ kk
theorem addAll_snoc {F xs : List Wo} {i : Nat} {x : Wo} (h : xs[i]? = some x) : addAll F (xs.take (i + 1)) = if x ∈ addAll F (xs.take i) then addAll F (xs.take i) else addAll F (xs.take i) ++ [x] := by
  unfold addAll
  rw [take_snoc h, List.foldl_append]; rfl
theorem law_reached : ∀ a0 Pp, f_reached a0 Pp → LF N_reached w_reached [a0] Pp := by
  rintro a0 Pp ⟨b, k, s, m, rfl, hA, hk, hb, kk⟩
  unfold N_reached w_reached autD
  walk_at "start"
  refine ev_ ?_
  have hkm := hA.le
  refine x_while (fun r E => ∃ (F : List Wo) (a : Nat) (z5 : Option B), F.Nodup ∧ (∀ x ∈ F, x ∈ nms m) ∧ a ≤ F.length ∧ r = m.length + 1 - a ∧ rch m (m.length + 1 - a) F a = rchS m s ∧ E = [some (.dat (autD s m)), some (.dat (.str s)), some (.dat (.dct false (kdD encSt m))), some (.own (.lst (F.map D.str))), some (.dat (.int a)), z5]) _ ⟨[s], 0, _, by simp, fun x hx => by rw [List.mem_singleton.mp hx]; exact hA.st, by simp, rfl, rfl, rfl⟩ ?_
  rintro r E ⟨F, a, z5, nd, hs, ha, rfl, he, rfl⟩
  have hfl : F.length ≤ m.length := by
    have := nodup_len nd hs
    unfold nms at this
    rwa [List.length_map] at this
  refine ev_ ?_
  rw [List.length_map]
  refine ev_ite (fun g => ?_) (fun g => ?_)
  · have hlt : a < F.length := by omega
    have hFa : F[a]? = some F[a] := List.getElem?_eq_getElem hlt
    obtain ⟨g1, g2, g3⟩ := hA.get (hs _ (List.getElem_mem hlt))
    refine ⟨F[a], by rw [atI_nat]; exact hFa, rfl, _, lk_enc g1, ?_⟩
    rw [show encSt (lett m F[a], stps m F[a]) = .tup [.str [lett m F[a]], .lst ((stps m F[a]).map D.str)] from rfl]
    refine ev_ ?_
    refine x_forK (fun i E => ∃ (z5 : Option B), E = [some (.dat (autD s m)), some (.dat (.str s)), some (.dat (.dct false (kdD encSt m))), some (.own (.lst ((addAll F ((stps m F[a]).take i)).map D.str))), some (.dat (.int a)), z5]) ⟨z5, rfl⟩ ?_ ?_
    · rintro i d E hi ⟨z5, rfl⟩
      obtain ⟨x, hx, rfl⟩ := map_get hi
      have hfl2 : (addAll F ((stps m F[a]).take i)).length ≤ m.length := by
        obtain ⟨h1, h2⟩ := addAll_nd ((stps m F[a]).take i) F nd
        have := nodup_len h1 (m := nms m) fun y hy => ((h2 y).mp hy).elim (hs y) fun z => g3 y (List.mem_of_mem_take z)
        unfold nms at this
        rwa [List.length_map] at this
      refine ev_ ⟨.inl ⟨rfl, flat_strs _⟩, ?_⟩
      rw [anyD_strs]
      refine ev_iteN (fun e => ?_) (fun e => ?_)
      · refine ⟨by rw [List.length_map]; omega, some (.dat (.str x)), ?_⟩
        rw [addAll_snoc hx, if_neg e, List.map_append]; rfl
      · refine ⟨some (.dat (.str x)), ?_⟩
        rw [addAll_snoc hx, if_pos e]
    · rintro E ⟨z5, rfl⟩
      rw [List.length_map, List.take_length]
      obtain ⟨h1, h2⟩ := addAll_nd (stps m F[a]) F nd
      obtain ⟨T, hT⟩ := addAll_ex (stps m F[a]) F
      refine ev_ ?_
      rw [show (a : Int) + 1 = ((a + 1 : Nat) : Int) by omega]
      refine ⟨m.length + 1 - (a + 1), by omega, _, a + 1, _, h1, fun y hy => ((h2 y).mp hy).elim (hs y) (g3 y), by rw [hT, List.length_append]; omega, rfl, ?_, rfl⟩
      rw [← he, show m.length + 1 - a = (m.length + 1 - (a + 1)) + 1 by omega]
      conv => rhs; unfold rch
      rw [dif_pos hlt]
  · refine ev_ ?_
    have : rch m (m.length + 1 - a) F a = F := by
      cases m.length + 1 - a with
      | zero => rfl
      | succ f => unfold rch; rw [dif_neg (by omega)]
    rw [this] at he
    rw [he]
    exact kk
theorem law__law_reached : ∀ a0 Pp, f__law_reached a0 Pp → LF N__law_reached w__law_reached [a0] Pp := by
  rintro a0 Pp ⟨b, k, s, m, rfl, hA, hk, hb, kk⟩
  unfold N__law_reached w__law_reached autD
  walk_at "start"
  refine ev_ ?_
  have hkm := hA.le
  refine x_while (fun r E => ∃ (F : List Wo) (a : Nat) (z5 : Option B), F.Nodup ∧ (∀ x ∈ F, x ∈ nms m) ∧ a ≤ F.length ∧ r = m.length + 1 - a ∧ rch m (m.length + 1 - a) F a = rchS m s ∧ E = [some (.dat (autD s m)), some (.own (.lst (F.map D.str))), some (.dat (.int a)), z5]) _ ⟨[s], 0, _, by simp, fun x hx => by rw [List.mem_singleton.mp hx]; exact hA.st, by simp, rfl, rfl, rfl⟩ ?_
  rintro r E ⟨F, a, z5, nd, hs, ha, rfl, he, rfl⟩
  have hfl : F.length ≤ m.length := by
    have := nodup_len nd hs
    unfold nms at this
    rwa [List.length_map] at this
  refine ev_ ?_
  rw [List.length_map]
  refine ev_ite (fun g => ?_) (fun g => ?_)
  · have hlt : a < F.length := by omega
    have hFa : F[a]? = some F[a] := List.getElem?_eq_getElem hlt
    obtain ⟨g1, g2, g3⟩ := hA.get (hs _ (List.getElem_mem hlt))
    refine ⟨F[a], by rw [atI_nat]; exact hFa, rfl, _, lk_enc g1, ?_⟩
    rw [show encSt (lett m F[a], stps m F[a]) = .tup [.str [lett m F[a]], .lst ((stps m F[a]).map D.str)] from rfl]
    refine ev_ ?_
    refine x_forK (fun i E => ∃ (z5 : Option B), E = [some (.dat (autD s m)), some (.own (.lst ((addAll F ((stps m F[a]).take i)).map D.str))), some (.dat (.int a)), z5]) ⟨z5, rfl⟩ ?_ ?_
    · rintro i d E hi ⟨z5, rfl⟩
      obtain ⟨x, hx, rfl⟩ := map_get hi
      have hfl2 : (addAll F ((stps m F[a]).take i)).length ≤ m.length := by
        obtain ⟨h1, h2⟩ := addAll_nd ((stps m F[a]).take i) F nd
        have := nodup_len h1 (m := nms m) fun y hy => ((h2 y).mp hy).elim (hs y) fun z => g3 y (List.mem_of_mem_take z)
        unfold nms at this
        rwa [List.length_map] at this
      refine ev_ ⟨.inl ⟨rfl, flat_strs _⟩, ?_⟩
      rw [anyD_strs]
      refine ev_iteN (fun e => ?_) (fun e => ?_)
      · refine ⟨by rw [List.length_map]; omega, some (.dat (.str x)), ?_⟩
        rw [addAll_snoc hx, if_neg e, List.map_append]; rfl
      · refine ⟨some (.dat (.str x)), ?_⟩
        rw [addAll_snoc hx, if_pos e]
    · rintro E ⟨z5, rfl⟩
      rw [List.length_map, List.take_length]
      obtain ⟨h1, h2⟩ := addAll_nd (stps m F[a]) F nd
      obtain ⟨T, hT⟩ := addAll_ex (stps m F[a]) F
      refine ev_ ?_
      rw [show (a : Int) + 1 = ((a + 1 : Nat) : Int) by omega]
      refine ⟨m.length + 1 - (a + 1), by omega, _, a + 1, _, h1, fun y hy => ((h2 y).mp hy).elim (hs y) (g3 y), by rw [hT, List.length_append]; omega, rfl, ?_, rfl⟩
      rw [← he, show m.length + 1 - a = (m.length + 1 - (a + 1)) + 1 by omega]
      conv => rhs; unfold rch
      rw [dif_pos hlt]
  · refine ev_ ?_
    have : rch m (m.length + 1 - a) F a = F := by
      cases m.length + 1 - a with
      | zero => rfl
      | succ f => unfold rch; rw [dif_neg (by omega)]
    rw [this] at he
    rw [he]
    exact kk
theorem lett_of {b k : Nat} {s : Wo} {m : Aut} (h : AutW b s m k) {p : Wo × Stt} (hp : p ∈ m) : lk m p.1 = some p.2 := by
  obtain ⟨v, h1, h2⟩ := lk_get (show p.1 ∈ m.map (·.1) from List.mem_map_of_mem hp)
  rw [h1]
  have nd := h.nd
  unfold nms at nd
  have : ∀ {m : Aut}, (m.map (·.1)).Nodup → (p.1, v) ∈ m → p ∈ m → v = p.2 := by
    intro m
    induction m with
    | nil => intro _ h; cases h
    | cons a m ih =>
      intro nd h1 h2
      rw [List.map_cons, List.nodup_cons] at nd
      rcases List.mem_cons.mp h1 with e | e
      · rcases List.mem_cons.mp h2 with e' | e'
        · rw [e', ← e]
        · exact (nd.1 (by rw [← e]; exact List.mem_map.mpr ⟨p, e', rfl⟩)).elim
      · rcases List.mem_cons.mp h2 with e' | e'
        · exact (nd.1 (by rw [← e']; exact List.mem_map.mpr ⟨_, e, rfl⟩)).elim
        · exact ih nd.2 e e'
  rw [this nd h2 hp]
theorem pt_new {α : Type} {m : List (Wo × α)} {x : Wo} {v : α} (h : x ∉ m.map (·.1)) : pt m x v = m ++ [(x, v)] := by
  unfold pt
  rw [if_neg]
  rw [List.any_eq_true]
  rintro ⟨p, hp, e⟩
  exact h (by rw [← of_decide_eq_true e]; exact List.mem_map_of_mem hp)
theorem drawn_of {b k : Nat} {s : Wo} {N : List Wo} {m : Aut} (hb : 2 ≤ b) (hN : N.length = k) (hk : k ≤ 9) (nd : N.Nodup) (ab : ∀ x ∈ N, ∃ c j : Nat, 97 ≤ c ∧ c ≤ 108 ∧ 48 ≤ j ∧ j ≤ 57 ∧ x = [c, j]) (hs : s ∈ N) (hm : nms m = N)
    (h : ∀ p ∈ m, p.2.2.length = b ∧ (∀ x ∈ p.2.2, x ∈ N) ∧ (p.2.1 = 120 ∨ p.2.1 = 121 ∨ p.2.1 = 122) ∧ (p.1 = s → p.2.2[0]? = some s)) : Drawn b s m k := by
  have hw : AutW b s m k := ⟨by rw [hm]; exact nd, by rw [← hN, ← hm]; unfold nms; rw [List.length_map]; exact Nat.le_refl _, by rw [hm]; exact hs, fun p hp => by rw [hm]; exact ⟨(h p hp).1, (h p hp).2.1⟩⟩
  refine ⟨hw, ?_, by rw [hm]; exact ab, fun p hp => (h p hp).2.2.1⟩
  obtain ⟨p, hp, e⟩ := List.mem_map.mp (show s ∈ m.map (·.1) from hw.st)
  unfold Loops nxt stps
  rw [← e, lett_of hw hp]
  show (p.2.2[0]?).getD [] = p.1
  rw [(h p hp).2.2.2 e, e]; rfl
def sI (i : Int) : List Nat := (toString i : Str).cps.toList
section
variable {P : B → Prop} {i : Int} {R : Prop}
instance [e : Ev (P (.dat (.str (sI i)))) R] : Ev (wStr (.int i) P) (i.natAbs.log2 < 1920 ∧ R) := ⟨fun h => ⟨h.1, e.h h.2⟩⟩
end
theorem sI_small : ∀ k : Nat, k < 10 → sI (k : Int) = [48 + k] := by decide +kernel
theorem abcL_get : ∀ v : Nat, v < 12 → ([97, 98, 99, 100, 101, 102, 103, 104, 105, 106, 107, 108] : List Nat)[v]? = some (97 + v) := by decide
theorem acc_strs {p : Wo → Prop} {acc : List D} (h : ∀ (j : Nat) (y : D), acc[j]? = some y → ∃ v, y = .str v ∧ p v) : ∃ ds : List Wo, acc = ds.map D.str ∧ ds.length = acc.length ∧ ∀ v ∈ ds, p v := by
  induction acc with
  | nil => exact ⟨[], rfl, rfl, fun v h => by cases h⟩
  | cons y acc ih =>
    obtain ⟨ds, e, l, q⟩ := ih fun j z hz => h (j + 1) z (by simpa using hz)
    obtain ⟨v, e2, hv⟩ := h 0 y rfl
    refine ⟨v :: ds, by rw [e, e2]; rfl, by simp [l], fun u hu => ?_⟩
    rcases List.mem_cons.mp hu with z | z
    · rw [z]; exact hv
    · exact q u z
theorem law__law_automaton : ∀ p a0 a1 a2 Pp, f__law_automaton a0 a1 a2 Pp → LP N__law_automaton w__law_automaton p a0 [a1, a2] Pp := by
  rintro p a0 a1 a2 Pp ⟨hp, b, k, rfl, rfl, hb, hb2, hk, hk2, kk⟩
  unfold N__law_automaton w__law_automaton
  walk_at "start"
  refine ev_ ⟨⟨by omega, by omega⟩, ?_⟩
  refine x_forK (fun i E => ∃ (N : List Wo) (d : D) (z4 : Option B), isPool d ∧ N.length = i ∧ (∀ j x, N[j]? = some x → ∃ c : Nat, 97 ≤ c ∧ c ≤ 108 ∧ x = [c, 48 + j]) ∧ E = [some (.par p d), some (.dat (.int b)), some (.dat (.int k)), some (.own (.lst (N.map D.str))), z4, none, none, none, none] ∧ (i = 0 ∨ ∃ d4, z4 = some (.dat d4))) ⟨[], _, _, hp, rfl, by simp, rfl, .inl rfl⟩ ?_ ?_
  · rintro i d0 E hi ⟨N, d, z4, hd, hNl, hN, rfl, _⟩
    obtain ⟨hlt, rfl⟩ := rng_get hi
    have hi9 : i < 10 := by omega
    refine ev_ ⟨hd, ⟨by decide, by decide⟩, fun v d' v0 v1 hd' => ?_⟩
    obtain ⟨c, rfl⟩ := Int.eq_ofNat_of_zero_le v0
    refine ⟨by decide, 97 + c, by rw [atI_nat]; exact abcL_get c (by omega), ?_⟩
    refine ⟨?_, ?_⟩
    · have : ((0 : Int) + (i : Int)).natAbs < 2 ^ 4 := by omega
      have h2 : ((0 : Int) + (i : Int)).natAbs.log2 < 5 := by
        rcases Nat.eq_zero_or_pos ((0 : Int) + (i : Int)).natAbs with z | z
        · rw [z]; decide
        · exact (Nat.log2_lt (by omega)).mpr (by omega)
      omega
    · rw [show (0 : Int) + (i : Int) = (i : Int) by omega, sI_small i hi9]
      refine ⟨by show 1 + 1 ≤ _; decide, by rw [List.length_map]; omega, N ++ [[97 + c, 48 + i]], d', _, hd', by rw [List.length_append, hNl]; rfl, fun j x hx => ?_, by rw [List.map_append]; rfl, .inr ⟨_, rfl⟩⟩
      rcases Nat.lt_or_ge j N.length with z | z
      · rw [List.getElem?_append_left z] at hx; exact hN j x hx
      · rw [List.getElem?_append_right z] at hx
        have e : j - N.length = 0 := by
          cases e : j - N.length with
          | zero => rfl
          | succ t => rw [e] at hx; simp at hx
        rw [e] at hx
        cases hx
        exact ⟨97 + c, by omega, by omega, by rw [show j = i by omega]⟩
  · rintro E ⟨N, d, z4, hd, hNl, hN, rfl, h4⟩
    rw [rng_len, show ((k : Int)).toNat = k by omega] at hNl h4
    obtain ⟨d4, rfl⟩ := h4.resolve_left (by omega)
    have nd : N.Nodup := by
      unfold List.Nodup
      rw [List.pairwise_iff_getElem]
      intro i j hi hj hij e
      obtain ⟨c1, _, _, e1⟩ := hN i _ (List.getElem?_eq_getElem hi)
      obtain ⟨c2, _, _, e2⟩ := hN j _ (List.getElem?_eq_getElem hj)
      rw [e1, e2] at e
      injection e with _ e
      injection e with e _
      omega
    have ab : ∀ x ∈ N, ∃ c j : Nat, 97 ≤ c ∧ c ≤ 108 ∧ 48 ≤ j ∧ j ≤ 57 ∧ x = [c, j] := fun x hx => by
      obtain ⟨j, hj, rfl⟩ := List.getElem_of_mem hx
      obtain ⟨c, c1, c2, e⟩ := hN j _ (List.getElem?_eq_getElem hj)
      exact ⟨c, 48 + j, c1, c2, by omega, by omega, e⟩
    refine ev_ ⟨hd, ⟨by omega, ?_⟩, fun v d1 v0 v1 hd1 => ?_⟩
    · exact Int.lt_of_lt_of_le (show (k : Int) < 2 ^ 10 by omega) (by exact_mod_cast Nat.pow_le_pow_right (by decide) (by decide))
    obtain ⟨t, rfl⟩ := Int.eq_ofNat_of_zero_le v0
    have htl : t < N.length := by omega
    refine ⟨N[t], by rw [atI_nat]; exact List.getElem?_eq_getElem htl, ?_⟩
    have hsN : N[t] ∈ N := List.getElem_mem htl
    generalize N[t] = s at hsN ⊢
    refine x_forK (fun i E => ∃ (m : Aut) (d : D) (z7 z8 : Option B), isPool d ∧ nms m = N.take i ∧ (∀ p ∈ m, p.2.2.length = b ∧ (∀ x ∈ p.2.2, x ∈ N) ∧ (p.2.1 = 120 ∨ p.2.1 = 121 ∨ p.2.1 = 122) ∧ (p.1 = s → p.2.2[0]? = some s)) ∧ E = [some (.par p d), some (.dat (.int b)), some (.dat (.int k)), some (.dat (.lst (N.map D.str))), some (.dat d4), some (.dat (.str s)), some (.own (.dct false (kdD encSt m))), z7, z8]) ⟨[], d1, _, _, hd1, rfl, by simp, rfl⟩ ?_ ?_
    · rintro i d0 E hi ⟨m, d, z7, z8, hd, hm, hq, rfl⟩
      obtain ⟨x, hx, rfl⟩ := map_get hi
      have hil : i < N.length := (List.getElem?_eq_some_iff.mp hx).1
      refine ev_ ⟨hd, fun d2 hd2 => ⟨⟨by omega, by omega⟩, ?_⟩⟩
      refine x_lcJ (fun y => [some (.par p y), some (.dat (.int b)), some (.dat (.int k)), some (.dat (.lst (N.map D.str))), none, some (.dat (.str s)), some (.own (.dct false (kdD encSt m))), some (.dat (.str x)), z8]) isPool (fun _ d => ∃ v, d = .str v ∧ v ∈ N) d2 rfl hd2 (fun i' d0 acc y hi' hlt hp hW => ?_) (fun acc d3 hl ha hd3 => ?_)
      · refine ev_ ⟨hp, ⟨fun e => by rw [e] at hil; simp at hil, by omega⟩, fun v y2 hv hy => ?_⟩
        exact aK_c y2 (by rw [rng_len]; omega) hW (by rw [rng_len]; rw [rng_len] at hlt; exact hlt) rfl hy ⟨v, rfl, hv⟩
      obtain ⟨S1, rfl, hl2, hS1⟩ := acc_strs (p := fun v => v ∈ N) ha
      rw [rng_len, show ((b : Int)).toNat = b by omega] at hl
      refine ev_ ?_
      refine x_join (fun E => ∃ S2 : List Wo, S2.length = b ∧ (∀ y ∈ S2, y ∈ N) ∧ (x = s → S2[0]? = some s) ∧ E = [some (.par p d3), some (.dat (.int b)), some (.dat (.int k)), some (.dat (.lst (N.map D.str))), some (.dat d4), some (.dat (.str s)), some (.own (.dct false (kdD encSt m))), some (.dat (.str x)), some (.own (.lst (S2.map D.str)))]) (fun nx' hn => ?_) ?_
      · refine ev_ ?_
        refine ev_ite (fun h => ?_) (fun h => hn _ ⟨S1, by omega, hS1, fun e => (h e).elim, rfl⟩)
        refine ⟨⟨by omega, by rw [List.length_map]; omega⟩, hn _ ⟨S1.set 0 s, by rw [List.length_set]; omega, fun y hy => ?_, fun _ => ?_, ?_⟩⟩
        · rcases List.mem_or_eq_of_mem_set hy with z | z
          · exact hS1 y z
          · rw [z]; exact hsN
        · rw [List.getElem?_set_self (by omega)]
        · rw [List.map_set]; rfl
      · rintro E ⟨S2, h1, h2, h3, rfl⟩
        refine ev_ ⟨hd3, ⟨by decide, by decide⟩, fun lt d5 hlt hd5 => ?_⟩
        have hl3 : ∃ c : Nat, lt = [c] ∧ (c = 120 ∨ c = 121 ∨ c = 122) := by
          simp only [List.mem_cons, List.not_mem_nil, or_false] at hlt
          rcases hlt with rfl | rfl | rfl | rfl
          · exact ⟨120, rfl, .inl rfl⟩
          · exact ⟨121, rfl, .inr (.inl rfl)⟩
          · exact ⟨121, rfl, .inr (.inl rfl)⟩
          · exact ⟨122, rfl, .inr (.inr rfl)⟩
        obtain ⟨c, rfl, hc⟩ := hl3
        have hml : m.length = i := by
          have := congrArg List.length hm
          unfold nms at this
          rw [List.length_map, List.length_take] at this
          omega
        refine ⟨rfl, by rw [kdD_len]; omega, ?_⟩
        rw [show (D.tup [.str [c], .lst (S2.map D.str)]) = encSt (c, S2) from rfl, putD_kdD]
        have hxm : x ∉ m.map (·.1) := by
          show x ∉ nms m
          rw [hm]
          intro hx2
          obtain ⟨j, hj, e⟩ := List.getElem_of_mem hx2
          have hj2 : j < i := by rw [List.length_take] at hj; omega
          rw [List.getElem_take] at e
          have := (List.getElem?_eq_some_iff.mp hx).2
          rw [← this] at e
          exact (List.pairwise_iff_getElem.mp nd) j i (by omega) hil hj2 e
        rw [pt_new hxm]
        refine ⟨_, _, _, _, hd5, ?_, ?_, rfl⟩
        · unfold nms at hm ⊢
          rw [List.map_append, hm, take_snoc hx]; rfl
        · intro q hq2
          rcases List.mem_append.mp hq2 with z | z
          · exact hq q z
          · rw [List.mem_singleton.mp z]
            exact ⟨h1, h2, hc, h3⟩
    · rintro E ⟨m, d, z7, z8, hd, hm, hq, rfl⟩
      rw [List.length_map, List.take_length] at hm
      refine ev_ ?_
      refine kk s m d (drawn_of hb hNl hk2 nd ab hsN hm hq) ?_ hd
      have := congrArg List.length hm
      unfold nms at this
      rwa [List.length_map, hNl] at this
end PW

set_option Elab.async false
set_option linter.all false
set_option autoImplicit false
set_option maxRecDepth 100000
set_option maxHeartbeats 4000000
set_option exponentiation.threshold 5000
namespace PW.K57
open PySem PySem.Spec PyProof.Rows L2 PW
abbrev Wn := List Wo
def encW (W : Wn) : D := .tup (W.map D.str)
section
variable (b : Nat) (s : Wo) (m : Aut) (w : Nat)
def wnd (n : Nat) : Wn := (List.range w).map fun i => sa b s m (n + i)
def pce (n : Nat) : Wo := (List.range w).map fun i => lett m (sa b s m (n + i))
def wdD (pl : List Nat) : List (D × D) := pl.map fun p => (encW (wnd b s m w p), .int (p : Nat))
end
theorem wnd_len {b : Nat} {s : Wo} {m : Aut} {w n : Nat} : (wnd b s m w n).length = w := by unfold wnd; simp
theorem wnd_get {b : Nat} {s : Wo} {m : Aut} {w n i : Nat} (h : i < w) : (wnd b s m w n)[i]? = some (sa b s m (n + i)) := by
  unfold wnd; rw [List.getElem?_map, List.getElem?_range h]; rfl
theorem pce_wnd {b : Nat} {s : Wo} {m : Aut} {w n : Nat} : pce b s m w n = (wnd b s m w n).map (lett m) := by
  unfold pce wnd; rw [List.map_map]; rfl
theorem pce_len {b : Nat} {s : Wo} {m : Aut} {w n : Nat} : (pce b s m w n).length = w := by unfold pce; simp
theorem pce_get {b : Nat} {s : Wo} {m : Aut} {w n i : Nat} (h : i < w) : (pce b s m w n)[i]? = some (lett m (sa b s m (n + i))) := by
  unfold pce; rw [List.getElem?_map, List.getElem?_range h]; rfl
/-- the window behind -/
def wb (b : Nat) (m : Aut) (W : Wn) (d : Nat) : Wn := (List.range W.length).map fun i => nxt m ((W[(d + i) / b]?).getD []) ((d + i) % b)
theorem wb_ix {b w d i : Nat} (hb : 2 ≤ b) (hd : d < b) (hi : i < w) : (d + i) / b < w := by
  rw [Nat.div_lt_iff_lt_mul (by omega)]
  have : w * 2 ≤ w * b := Nat.mul_le_mul_left w hb
  rcases Nat.eq_or_lt_of_le (show 1 ≤ w by omega) with e | e
  · rw [← e]; omega
  · have h2 : w * b = (w - 1) * b + b := by
      rw [← Nat.succ_mul]; congr 1; omega
    have h3 : (w - 1) * 2 ≤ (w - 1) * b := Nat.mul_le_mul_left _ hb
    omega
theorem wb_wnd {b : Nat} {s : Wo} {m : Aut} {w n d : Nat} (hb : 2 ≤ b) (hz : Loops s m) (hd : d < b) : wb b m (wnd b s m w n) d = wnd b s m w (b * n + d) := by
  unfold wb
  rw [wnd_len]
  conv => rhs; unfold wnd
  apply List.map_congr_left
  intro i hi
  have hi := List.mem_range.mp hi
  rw [wnd_get (wb_ix hb hd hi)]
  have e : b * n + d + i = b * (n + (d + i) / b) + (d + i) % b := by
    have := Nat.div_add_mod (d + i) b
    rw [Nat.mul_add]; omega
  rw [e, sa_step hb hz _ _ (Nat.mod_lt _ (by omega))]; rfl
/-! ### the places found -/
structure Wins (b : Nat) (s : Wo) (m : Aut) (w : Nat) (pl : List Nat) : Prop where
  all : ∀ n, ∃ p ∈ pl, wnd b s m w n = wnd b s m w p
  min : ∀ p ∈ pl, ∀ n, n < p → wnd b s m w n ≠ wnd b s m w p
  few : pl.length ≤ 243
  big : ∀ p ∈ pl, p < 2 ^ 1000
/-- everything below c is found -/
def Cov (b : Nat) (s : Wo) (m : Aut) (w : Nat) (pl : List Nat) (c : Nat) : Prop := ∀ n, n < c → ∃ p ∈ pl, wnd b s m w n = wnd b s m w p
structure Bfs (b : Nat) (s : Wo) (m : Aut) (w : Nat) (pl : List Nat) (c : Nat) : Prop where
  cov : Cov b s m w pl c
  min : ∀ p ∈ pl, ∀ n, n < p → wnd b s m w n ≠ wnd b s m w p
  asc : pl.Pairwise (· < ·)
  zer : 0 ∈ pl
  low : ∀ p ∈ pl, p < c ∨ p = 0
  pow : ∀ p ∈ pl, p + 1 ≤ b ^ pl.length
section
variable {b : Nat} {s : Wo} {m : Aut} {w : Nat} {pl : List Nat} {c : Nat}
theorem bfs_0 (hb : 2 ≤ b) : Bfs b s m w [0] 0 := ⟨fun n h => by omega, fun p hp n hn => by rw [List.mem_singleton.mp hp] at hn; omega, by simp, by simp, fun p hp => .inr (List.mem_singleton.mp hp), fun p hp => by rw [List.mem_singleton.mp hp]; simp; omega⟩
theorem wnd_mul (hb : 2 ≤ b) (hz : Loops s m) {n p : Nat} (h : wnd b s m w (n / b) = wnd b s m w p) : wnd b s m w n = wnd b s m w (b * p + n % b) := by
  have hm := Nat.mod_lt n (show 0 < b by omega)
  rw [← wb_wnd hb hz hm, ← h, wb_wnd hb hz hm, Nat.div_add_mod]
/-- the next one to be gone on from -/
theorem Bfs.jump (hb : 2 ≤ b) (hz : Loops s m) (h : Bfs b s m w pl c) {p : Nat} (hp : p ∈ pl) (hc : ∀ q ∈ pl, q < p → b * q + b ≤ c) (hle : c ≤ b * p) : Bfs b s m w pl (b * p) := by
  refine ⟨fun n hn => ?_, h.min, h.asc, h.zer, fun q hq => ?_, h.pow⟩
  · have hk : n / b < p := Nat.div_lt_of_lt_mul hn
    have hpc : p < c := by
      rcases h.low p hp with z | z
      · exact z
      · rw [z, Nat.mul_zero] at hn; omega
    obtain ⟨q, hq, e⟩ := h.cov (n / b) (by omega)
    have hqk : q ≤ n / b := by
      rcases Nat.lt_or_ge (n / b) q with z | z
      · exact (h.min q hq _ z e).elim
      · exact z
    rw [wnd_mul hb hz e]
    refine h.cov _ ?_
    have := hc q hq (by omega)
    have := Nat.mod_lt n (show 0 < b by omega)
    omega
  · rcases h.low q hq with z | z
    · exact .inl (by omega)
    · exact .inr z
theorem Bfs.old (h : Bfs b s m w pl c) (ho : ∃ p ∈ pl, wnd b s m w c = wnd b s m w p) : Bfs b s m w pl (c + 1) := by
  refine ⟨fun n hn => ?_, h.min, h.asc, h.zer, fun q hq => ?_, h.pow⟩
  · rcases Nat.lt_or_ge n c with z | z
    · exact h.cov n z
    · rw [show n = c by omega]; exact ho
  · rcases h.low q hq with z | z
    · exact .inl (by omega)
    · exact .inr z
theorem Bfs.new (hb : 2 ≤ b) (h : Bfs b s m w pl c) (ho : ¬ ∃ p ∈ pl, wnd b s m w c = wnd b s m w p) {p d : Nat} (hp : p ∈ pl) (hd : d < b) (hc : c = b * p + d) : Bfs b s m w (pl ++ [c]) (c + 1) ∧ ∀ q ∈ pl, q < c := by
  have hc0 : c ≠ 0 := fun e => ho ⟨0, h.zer, by rw [e]⟩
  have hlt : ∀ q ∈ pl, q < c := fun q hq => by
    rcases h.low q hq with z | z
    · exact z
    · omega
  refine ⟨⟨fun n hn => ?_, fun q hq n hn e => ?_, ?_, List.mem_append_left _ h.zer, fun q hq => ?_, fun q hq => ?_⟩, hlt⟩
  · rcases Nat.lt_or_ge n c with z | z
    · obtain ⟨p, hp, e⟩ := h.cov n z
      exact ⟨p, List.mem_append_left _ hp, e⟩
    · exact ⟨c, by simp, by rw [show n = c by omega]⟩
  · rcases List.mem_append.mp hq with z | z
    · exact h.min q z n hn e
    · rw [List.mem_singleton.mp z] at hn e
      obtain ⟨p, hp, e'⟩ := h.cov n hn
      exact ho ⟨p, hp, e.symm.trans e'⟩
  · rw [List.pairwise_append]
    exact ⟨h.asc, by simp, fun a ha b hb => by rw [List.mem_singleton.mp hb]; exact hlt a ha⟩
  · rcases List.mem_append.mp hq with z | z
    · exact .inl (Nat.lt_succ_of_lt (hlt q z))
    · rw [List.mem_singleton.mp z]; exact .inl (Nat.lt_succ_self _)
  · rw [List.length_append, List.length_singleton]
    have h1 : b ^ pl.length ≤ b ^ (pl.length + 1) := Nat.pow_le_pow_right (by omega) (Nat.le_succ _)
    rcases List.mem_append.mp hq with z | z
    · exact Nat.le_trans (h.pow q z) h1
    · rw [List.mem_singleton.mp z]
      have h2 := Nat.mul_le_mul_left b (h.pow p hp)
      rw [Nat.pow_succ, Nat.mul_comm (b ^ _) b]
      rw [Nat.mul_add] at h2
      omega
theorem Bfs.inj (h : Bfs b s m w pl c) {p q : Nat} (hp : p ∈ pl) (hq : q ∈ pl) (e : wnd b s m w p = wnd b s m w q) : p = q := by
  rcases Nat.lt_trichotomy p q with z | z | z
  · exact (h.min q hq p z e).elim
  · exact z
  · exact (h.min p hp q z e.symm).elim
/-- the lists of that many out of these -/
def lsts (N : List Wo) : Nat → List Wn
  | 0 => [[]]
  | n + 1 => (lsts N n).flatMap fun W => N.map fun x => W ++ [x]
theorem mem_lsts {N : List Wo} : ∀ {n : Nat} {W : Wn}, W.length = n → (∀ x ∈ W, x ∈ N) → W ∈ lsts N n
  | 0, W, h, _ => by unfold lsts; rw [List.length_eq_zero_iff.mp h]; simp
  | n + 1, W, h, hx => by
    unfold lsts
    rcases List.eq_nil_or_concat W with e | ⟨U, x, e⟩
    · rw [e] at h; cases h
    · rw [List.concat_eq_append] at e
      subst e
      rw [List.length_append] at h
      exact List.mem_flatMap.mpr ⟨U, mem_lsts (by simpa using h) fun y hy => hx y (List.mem_append_left _ hy), List.mem_map.mpr ⟨x, hx x (by simp), rfl⟩⟩
theorem lsts_len (N : List Wo) : ∀ n, (lsts N n).length = N.length ^ n
  | 0 => rfl
  | n + 1 => by
    unfold lsts
    rw [List.length_flatMap]
    simp only [List.length_map]
    have : ∀ l : List Wn, (l.map fun _ => N.length).sum = l.length * N.length := fun l => by
      induction l with
      | nil => simp
      | cons a l ih => rw [List.map_cons, List.sum_cons, ih, List.length_cons, Nat.add_mul]; omega
    rw [this, lsts_len N n, Nat.pow_succ]
theorem Bfs.few {k : Nat} (hA : AutW b s m k) (hk : k ≤ 3) (hw : w ≤ 5) (hb : 2 ≤ b) (h : Bfs b s m w pl c) : pl.length ≤ 243 := by
  have nd : (pl.map (wnd b s m w)).Nodup := by
    unfold List.Nodup
    rw [List.pairwise_map]
    refine List.Pairwise.imp_of_mem ?_ h.asc
    intro p q hp hq hlt e
    exact absurd (h.inj hp hq e) (by omega)
  have := nodup_len (m := lsts (nms m) w) nd fun W hW => by
    obtain ⟨p, _, rfl⟩ := List.mem_map.mp hW
    refine mem_lsts wnd_len fun x hx => ?_
    unfold wnd at hx
    obtain ⟨i, _, rfl⟩ := List.mem_map.mp hx
    exact hA.sa hb _
  rw [List.length_map, lsts_len] at this
  have hn : (nms m).length ≤ 3 := by unfold nms; rw [List.length_map]; exact Nat.le_trans hA.le hk
  have h1 : (nms m).length ^ w ≤ 3 ^ w := Nat.pow_le_pow_left hn _
  have h2 : 3 ^ w ≤ 3 ^ 5 := Nat.pow_le_pow_right (by decide) hw
  have : 3 ^ 5 = 243 := rfl
  omega
theorem Bfs.wins {k : Nat} (hA : AutW b s m k) (hk : k ≤ 3) (hw : w ≤ 5) (hb : 2 ≤ b) (hb3 : b ≤ 3) (hz : Loops s m) (h : Bfs b s m w pl c) (hd : ∀ p ∈ pl, b * p + b ≤ c) : Wins b s m w pl := by
  have hf := h.few hA hk hw hb
  refine ⟨fun n => ?_, h.min, hf, fun p hp => ?_⟩
  · induction n using Nat.strongRecOn with
    | ind n ih =>
      rcases Nat.eq_zero_or_pos n with e | e
      · exact ⟨0, h.zer, by rw [e]⟩
      · obtain ⟨p, hp, e2⟩ := ih (n / b) (Nat.div_lt_self e hb)
        rw [wnd_mul hb hz e2]
        refine h.cov _ ?_
        have := hd p hp
        have := Nat.mod_lt n (show 0 < b by omega)
        omega
  · have h1 := h.pow p hp
    have h2 : b ^ pl.length ≤ 4 ^ pl.length := Nat.pow_le_pow_left (by omega) _
    have h3 : 4 ^ pl.length ≤ 4 ^ 243 := Nat.pow_le_pow_right (by decide) hf
    have h4 : (4 : Nat) ^ 243 ≤ 2 ^ 1000 := by decide +kernel
    omega
end
/-! ### dicts whose keys are windows -/
theorem encW_key (W : Wn) : keyOk true (encW W) = true := by
  show (true && (W.map D.str).all fun d => match d with | .int _ => true | .str _ => true | _ => false) = true
  rw [Bool.true_and, List.all_eq_true]
  intro d hd
  obtain ⟨x, _, rfl⟩ := List.mem_map.mp hd
  rfl
theorem eqD_encW (U W : Wn) : eqD (encW U) (encW W) = decide (U = W) := by unfold encW; rw [eqD_tup]; exact eqDs_dec eqS U W
theorem lookW {b : Nat} {s : Wo} {m : Aut} {w : Nat} : ∀ (pl : List Nat) (W : Wn), lookD (wdD b s m w pl) (encW W) = (pl.find? fun p => decide (wnd b s m w p = W)).map fun p => D.int (p : Nat)
  | [], W => rfl
  | p :: pl, W => by
    have ih := lookW (b := b) (s := s) (m := m) (w := w) pl W
    unfold lookD wdD at *
    rw [List.map_cons, List.find?_cons, List.find?_cons]
    rw [eqD_encW]
    cases h : decide (wnd b s m w p = W) with
    | true => rfl
    | false => exact ih
theorem look_some {b : Nat} {s : Wo} {m : Aut} {w c : Nat} {pl : List Nat} (h : Bfs b s m w pl c) {p : Nat} (hp : p ∈ pl) : lookD (wdD b s m w pl) (encW (wnd b s m w p)) = some (.int (p : Nat)) := by
  rw [lookW]
  cases e : pl.find? fun q => decide (wnd b s m w q = wnd b s m w p) with
  | none =>
    have := List.find?_eq_none.mp e p hp
    simp at this
  | some q =>
    rw [h.inj (List.mem_of_find?_eq_some e) hp (of_decide_eq_true (List.find?_some (p := fun q => decide (wnd b s m w q = wnd b s m w p)) e))]; rfl
theorem look_wins {b : Nat} {s : Wo} {m : Aut} {w : Nat} {pl : List Nat} (h : Wins b s m w pl) {p : Nat} (hp : p ∈ pl) : lookD (wdD b s m w pl) (encW (wnd b s m w p)) = some (.int (p : Nat)) := by
  rw [lookW]
  cases e : pl.find? fun q => decide (wnd b s m w q = wnd b s m w p) with
  | none =>
    have := List.find?_eq_none.mp e p hp
    simp at this
  | some q =>
    have e1 := of_decide_eq_true (List.find?_some (p := fun q => decide (wnd b s m w q = wnd b s m w p)) e)
    have hq := List.mem_of_find?_eq_some e
    have : q = p := by
      rcases Nat.lt_trichotomy q p with z | z | z
      · exact (h.min p hp q z e1).elim
      · exact z
      · exact (h.min q hq p z e1.symm).elim
    rw [this]; rfl
theorem look_is {b : Nat} {s : Wo} {m : Aut} {w : Nat} (pl : List Nat) (W : Wn) : (lookD (wdD b s m w pl) (encW W)).isSome = decide (∃ p ∈ pl, W = wnd b s m w p) := by
  rw [lookW, Option.isSome_map]
  cases e : pl.find? fun q => decide (wnd b s m w q = W) with
  | none =>
    symm
    rw [Option.isSome_none, decide_eq_false_iff_not]
    rintro ⟨p, hp, e2⟩
    have := List.find?_eq_none.mp e p hp
    simp [e2] at this
  | some q =>
    symm
    rw [Option.isSome_some, decide_eq_true_iff]
    exact ⟨q, List.mem_of_find?_eq_some e, (of_decide_eq_true (List.find?_some (p := fun q => decide (wnd b s m w q = W)) e)).symm⟩
theorem put_new {b : Nat} {s : Wo} {m : Aut} {w : Nat} {pl : List Nat} {c : Nat} (h : ¬ ∃ p ∈ pl, wnd b s m w c = wnd b s m w p) : putD (wdD b s m w pl) (encW (wnd b s m w c)) (.int (c : Nat)) = wdD b s m w (pl ++ [c]) := by
  unfold putD
  rw [if_neg]
  · unfold wdD; rw [List.map_append]; rfl
  · rw [List.any_eq_true]
    rintro ⟨q, hq, e⟩
    unfold wdD at hq
    obtain ⟨p, hp, rfl⟩ := List.mem_map.mp hq
    rw [eqD_encW] at e
    exact h ⟨p, hp, (of_decide_eq_true e).symm⟩
/-! ### rules and letters -/
def ix (R : List Wo) (x : Wo) : Nat := (fi R x).getD 0
def rulesL (m : Aut) (R : List Wo) : List (Wo × Wo) := R.map fun x => ([97 + ix R x], (stps m x).map fun y => 97 + ix R y)
def lettL (m : Aut) (R : List Wo) : List (Wo × Wo) := R.map fun x => ([97 + ix R x], [lett m x])
def namL (R : List Wo) : List (Wo × Wo) := R.map fun x => (x, [97 + ix R x])
theorem fi_get {R : List Wo} (nd : R.Nodup) {i : Nat} {x : Wo} (h : R[i]? = some x) : fi R x = some i := by
  unfold fi
  have hi := (List.getElem?_eq_some_iff.mp h).1
  have hx := (List.getElem?_eq_some_iff.mp h).2
  rw [List.findIdx?_eq_some_iff_getElem]
  refine ⟨hi, decide_eq_true hx, fun j hj e => ?_⟩
  have e := of_decide_eq_true e
  exact (List.pairwise_iff_getElem.mp nd) j i (by omega) hi hj (e.trans hx.symm)
theorem ix_get {R : List Wo} (nd : R.Nodup) {i : Nat} {x : Wo} (h : R[i]? = some x) : ix R x = i := by unfold ix; rw [fi_get nd h]; rfl
theorem ix_inj {R : List Wo} (nd : R.Nodup) {x y : Wo} (hx : x ∈ R) (hy : y ∈ R) (e : ix R x = ix R y) : x = y := by
  obtain ⟨i, hi, ei⟩ := List.getElem_of_mem hx
  obtain ⟨j, hj, ej⟩ := List.getElem_of_mem hy
  have h1 := ix_get nd (show R[i]? = some x by rw [List.getElem?_eq_getElem hi, ei])
  have h2 := ix_get nd (show R[j]? = some y by rw [List.getElem?_eq_getElem hj, ej])
  have : i = j := by omega
  subst this
  exact ei.symm.trans ej
theorem ix_lt {R : List Wo} (nd : R.Nodup) {x : Wo} (hx : x ∈ R) : ix R x < R.length := by
  obtain ⟨i, hi, ei⟩ := List.getElem_of_mem hx
  rw [ix_get nd (show R[i]? = some x by rw [List.getElem?_eq_getElem hi, ei])]; exact hi
theorem lk_cons' {α : Type} {a : Wo × α} {m : List (Wo × α)} {k : Wo} : lk (a :: m) k = if a.1 = k then some a.2 else lk m k := by
  unfold lk
  rw [List.find?_cons]
  by_cases h : a.1 = k
  · rw [if_pos h, decide_eq_true h]; rfl
  · rw [if_neg h, decide_eq_false h]
theorem lk_map {α : Type} (g : Wo → Wo) (f : Wo → α) : ∀ {R : List Wo} {x : Wo}, x ∈ R → (∀ y ∈ R, g y = g x → y = x) → lk (R.map fun y => (g y, f y)) (g x) = some (f x)
  | [], x, h, _ => by cases h
  | y :: R, x, h, inj => by
    rw [List.map_cons, lk_cons']
    by_cases e : g y = g x
    · rw [if_pos e, inj y List.mem_cons_self e]
    · rw [if_neg e]
      refine lk_map g f ?_ fun z hz => inj z (List.mem_cons_of_mem _ hz)
      rcases List.mem_cons.mp h with z | z
      · rw [z] at e; exact (e rfl).elim
      · exact z
theorem lk_nam {R : List Wo} {x : Wo} (hx : x ∈ R) : lk (namL R) x = some [97 + ix R x] := lk_map id (fun x => [97 + ix R x]) hx fun y _ e => e
theorem lk_rules {m : Aut} {R : List Wo} (nd : R.Nodup) {x : Wo} (hx : x ∈ R) : lk (rulesL m R) [97 + ix R x] = some ((stps m x).map fun y => 97 + ix R y) :=
  lk_map (fun x => [97 + ix R x]) (fun x => (stps m x).map fun y => 97 + ix R y) hx fun y hy e => ix_inj nd hy hx (by
    have := (List.cons.inj e).1; omega)
theorem lk_lett {m : Aut} {R : List Wo} (nd : R.Nodup) {x : Wo} (hx : x ∈ R) : lk (lettL m R) [97 + ix R x] = some [lett m x] :=
  lk_map (fun x => [97 + ix R x]) (fun x => [lett m x]) hx fun y hy e => ix_inj nd hy hx (by
    have := (List.cons.inj e).1; omega)
/-! ### the row of rules -/
def gr (b : Nat) (s : Wo) (m : Aut) (R : List Wo) (N : Nat) : Wo := (List.range N).map fun n => 97 + ix R (sa b s m n)
theorem gr_step {b k : Nat} {s : Wo} {m : Aut} {R : List Wo} (hA : AutW b s m k) (hb : 2 ≤ b) (hz : Loops s m) (n : Nat) : gr b s m R (b * (n + 1)) = gr b s m R (b * n) ++ (stps m (sa b s m n)).map fun y => 97 + ix R y := by
  unfold gr
  rw [Nat.mul_succ, List.range_add, List.map_append]
  congr 1
  rw [List.map_map]
  have hl := (hA.get (hA.sa hb n)).2.1
  apply List.ext_getElem
  · simp [hl]
  · intro i h1 h2
    have hi : i < b := by simpa using h1
    rw [List.getElem_map, List.getElem_range, List.getElem_map]
    show 97 + ix R (sa b s m (b * n + i)) = _
    rw [sa_step hb hz n i hi]
    have := (hA.nxt (hA.sa hb n) hi).1
    rw [List.getElem?_eq_getElem (by omega)] at this
    rw [← Option.some.inj this]
theorem sa_in {b k : Nat} {s : Wo} {m : Aut} (hA : AutW b s m k) (hb : 2 ≤ b) (n : Nat) : sa b s m n ∈ rchS m s := by
  have hR := rchS_ok hA
  have : ∀ (l : List Nat) (x : Wo), x ∈ rchS m s → (∀ d ∈ l, d < b) → l.foldl (nxt m) x ∈ rchS m s := by
    intro l
    induction l with
    | nil => intro x hx _; exact hx
    | cons d l ih =>
      intro x hx hl
      refine ih _ (hR.cl x hx _ ?_) fun e he => hl e (List.mem_cons_of_mem _ he)
      have := (hA.nxt (hR.sub x hx) (hl d List.mem_cons_self)).1
      exact List.mem_of_getElem? this
  refine this _ _ ?_ (digs_lt hb n)
  exact List.mem_of_mem_head? hR.hd
/-! ### what the defs promise -/
def W2 (b : Nat) (s : Wo) (m : Aut) (k : Nat) : Prop := AutW b s m k ∧ 2 ≤ b ∧ b ≤ 3 ∧ k ≤ 3 ∧ Loops s m
def f_states_at : D → D → D → D → (B → Prop) → Prop := fun b a n w P => ∃ (b' k w' : Nat) (s : Wo) (m : Aut), b = .int b' ∧ a = autD s m ∧ n = .int 0 ∧ w = .int w' ∧ W2 b' s m k ∧ w' ≤ 5 ∧ P (.dat (encW (wnd b' s m w' 0)))
def f_window_behind : D → D → D → D → (B → Prop) → Prop := fun b a W d P => ∃ (b' k w' n d' : Nat) (s : Wo) (m : Aut), b = .int b' ∧ a = autD s m ∧ W = encW (wnd b' s m w' n) ∧ d = .int d' ∧ W2 b' s m k ∧ w' ≤ 5 ∧ d' < b' ∧ P (.dat (encW (wnd b' s m w' (b' * n + d'))))
def f_windows : D → D → D → (B → Prop) → Prop := fun b a w P => ∃ (b' k w' : Nat) (s : Wo) (m : Aut), b = .int b' ∧ a = autD s m ∧ w = .int w' ∧ W2 b' s m k ∧ w' ≤ 5 ∧ ∀ pl, Wins b' s m w' pl → P (.own (.dct true (wdD b' s m w' pl)))
def f_word_of : D → D → (B → Prop) → Prop := fun a W P => ∃ (b' k w' n : Nat) (s : Wo) (m : Aut), a = autD s m ∧ W = encW (wnd b' s m w' n) ∧ W2 b' s m k ∧ w' ≤ 5 ∧ P (.dat (.str (pce b' s m w' n)))
def f_pieces : D → D → D → (B → Prop) → Prop := fun b a w P => ∃ (b' k w' : Nat) (s : Wo) (m : Aut), b = .int b' ∧ a = autD s m ∧ w = .int w' ∧ W2 b' s m k ∧ w' ≤ 5 ∧ ∀ pl, Wins b' s m w' pl → P (.own (.lst ((sset (pl.map (pce b' s m w'))).map D.str)))
def f_first_piece : D → D → D → (B → Prop) → Prop := fun b a x P => ∃ (b' k : Nat) (s : Wo) (m : Aut) (u : Wo), b = .int b' ∧ a = autD s m ∧ x = .str u ∧ W2 b' s m k ∧ u.length ≤ 5 ∧
  ((∀ n, pce b' s m u.length n ≠ u) → P (.dat .non)) ∧ ∀ n, n < 2 ^ 1000 → pce b' s m u.length n = u → (∀ i, i < n → pce b' s m u.length i ≠ u) → P (.dat (.int (n : Nat)))
def f_as_rules : D → (B → Prop) → Prop := fun a P => ∃ (b' k : Nat) (s : Wo) (m : Aut), a = autD s m ∧ W2 b' s m k ∧ P (.dat (.tup [.dct false (kdD D.str (rulesL m (rchS m s))), .dct false (kdD D.str (lettL m (rchS m s)))]))
def f_law := fLaw 63
end PW.K57

set_option Elab.async false
set_option linter.all false
set_option autoImplicit false
set_option maxRecDepth 100000
set_option maxHeartbeats 4000000
namespace PW.K57
open PySem PySem.Spec PyProof.Rows L2 PW
/-! ### the defs, read as plain data -/
def N_states_at : Nat := 10
-- 0:b 1:automaton 2:n 3:many 4:start 5:states 6:found 7:place 8:here 9:digit
def w_states_at : WS :=
  (sSeq (sAsg (wV 1) (gT 2 (gsC (gN 4) (gsC (gN 5) gsN))))
  (sSeq (sSet 6 (wLst aN))
  (sSeq (sFor (iR2 (wV 2) (wOp wAdd (oV 2) (oV 3))) (gN 7) (sSeq (sSet 8 (wV 4))
  (sSeq (sFor (iS (wCall (fs2 f_digits_of) (aC (wV 0) (aC (wV 7) aN)))) (gN 9) (sSet 8 (wOp wIx (oE (wOp wIx (oE (wOp wIx (oV 5) (oV 8))) (oE (wC (.int 1))))) (oV 9))))
  (sExpr (wMut1 "list" 6 mAppend (wV 8))))))
  (sRet (wUn wTuple (oV 6))))))
def N_window_behind : Nat := 6
-- 0:b 1:automaton 2:window 3:digit 4:states 5:at
def w_window_behind : WS :=
  (sSeq (sSet 4 (wOp wIx (oV 1) (oE (wC (.int 1)))))
  (sRet (wUn wTuple (oE (wLc (iR1 (wUn wLen (oV 2))) (gN 5) wYes (wOp wIx (oE (wOp wIx (oE (wOp wIx (oV 4) (oE (wOp wIx (oV 2) (oE (wOp wFdiv (oE (wOp wAdd (oV 3) (oV 5))) (oV 0))))))) (oE (wC (.int 1))))) (oE (wOp wMod (oE (wOp wAdd (oV 3) (oV 5))) (oV 0)))) [5])))))
def N_windows : Nat := 10
-- 0:b 1:automaton 2:many 3:first 4:found 5:layer 6:further 7:window 8:digit 9:there
def w_windows : WS :=
  (sSeq (sSet 3 (wCall (fs4 f_states_at) (aC (wV 0) (aC (wV 1) (aC (wC (.int 0)) (aC (wV 2) aN))))))
  (sSeq (sSet 4 (wDispT [((wV 3), (wC (.int 0)))]))
  (sSeq (sSet 5 (wLst (aC (wV 3) aN)))
  (sSeq (sWhile (wTru (oV 5)) (sSeq (sSet 6 (wLst aN))
  (sSeq (sFor (iS (wV 5)) (gN 7) (sFor (iR1 (wV 0)) (gN 8) (sSeq (sSet 9 (wCall (fs4 f_window_behind) (aC (wV 0) (aC (wV 1) (aC (wV 7) (aC (wV 8) aN))))))
  (sIf (wTst (wOp wNin (oV 9) (oV 4))) (sSeq (sSub 4 (wV 9) (wOp wAdd (oE (wOp wMulG (oV 0) (oE (wOp wIx (oV 4) (oV 7))))) (oV 8)))
  (sExpr (wMut1 "list" 6 mAppend (wV 9)))) sNext))))
  (sSet 5 (wM 6)))))
  (sRet (wM 4))))))
def N_word_of : Nat := 3
-- 0:automaton 1:window 2:name
def w_word_of : WS :=
  (sRet (wMt1 "str" wJoin (oE (wC (.str []))) (oE (wLc (iS (wV 1)) (gN 2) wYes (wOp wIx (oE (wOp wIx (oE (wOp wIx (oV 0) (oE (wC (.int 1))))) (oV 2))) (oE (wC (.int 0)))) [2]))))
def N_pieces : Nat := 4
-- 0:b 1:automaton 2:many 3:window
def w_pieces : WS :=
  (sRet (wUn wSortSet (oE (wLc (iS (wCall (fs3 f_windows) (aC (wV 0) (aC (wV 1) (aC (wV 2) aN))))) (gN 3) wYes (wCall (fs2 f_word_of) (aC (wV 1) (aC (wV 3) aN))) [3]))))
def N_first_piece : Nat := 6
-- 0:b 1:automaton 2:word 3:told 4:places 5:window
def w_first_piece : WS :=
  (sSeq (sSet 3 (wCall (fs3 f_windows) (aC (wV 0) (aC (wV 1) (aC (wUn wLen (oV 2)) aN)))))
  (sSeq (sSet 4 (wLc (iS (wV 3)) (gN 5) (wTst (wOp wEq (oE (wCall (fs2 f_word_of) (aC (wV 1) (aC (wV 5) aN)))) (oV 2))) (wOp wIx (oV 3) (oV 5)) [5]))
  (sRet (wIf (wTru (oV 4)) (wUn wMin (oV 4)) (wC .non)))))
def N_as_rules : Nat := 8
-- 0:automaton 1:states 2:order 3:letters 4:rules 5:at 6:name 7:end
def w_as_rules : WS :=
  (sSeq (sSet 1 (wOp wIx (oV 0) (oE (wC (.int 1)))))
  (sSeq (sSet 2 (wCall (fs1 f_reached) (aC (wV 0) aN)))
  (sSeq (sSet 3 (wDc (iEn (wV 2)) (gT 2 (gsC (gN 5) (gsC (gN 6) gsN))) wYes (wV 6) (wOp wIx (oE (wC (.str [97, 98, 99, 100, 101, 102, 103, 104, 105, 106, 107, 108]))) (oV 5)) [5, 6]))
  (sSeq (sSet 4 (wDc (iS (wV 2)) (gN 6) wYes (wOp wIx (oV 3) (oV 6)) (wMt1 "str" wJoin (oE (wC (.str []))) (oE (wLc (iS (wOp wIx (oE (wOp wIx (oV 1) (oV 6))) (oE (wC (.int 1))))) (gN 7) wYes (wOp wIx (oV 3) (oV 7)) [7]))) [6]))
  (sRet (wTup (aC (wV 4) (aC (wDc (iS (wV 2)) (gN 6) wYes (wOp wIx (oV 3) (oV 6)) (wOp wIx (oE (wOp wIx (oV 1) (oV 6))) (oE (wC (.int 0)))) [6]) aN))))))))
def N_law : Nat := 21
-- 0:script 1:pool 2:b 3:automaton 4:many 5:row 6:told 7:near 8:at 9:word 10:place 11:k 12:rules 13:letters 14:grown 15:further 16:letter 17:text 18:order 19:steps 20:j
def w_law : WS :=
  (sSeq (sSet 1 (wCall (fs1 f__law_pool) (aC (wV 0) aN)))
  (sSeq (sSet 2 (wOp wAdd (oE (wC (.int 2))) (oE (wCallP 1 (ps1 f__law_draw) (aC (wC (.int 2)) aN)))))
  (sSeq (sSet 3 (wCallP 1 (ps2 f__law_automaton) (aC (wV 2) (aC (wOp wAdd (oE (wC (.int 1))) (oE (wCallP 1 (ps1 f__law_draw) (aC (wC (.int 3)) aN)))) aN))))
  (sSeq (sSet 4 (wOp wAdd (oE (wC (.int 1))) (oE (wCallP 1 (ps1 f__law_draw) (aC (wC (.int 5)) aN)))))
  (sSeq (sSet 5 (wCall (fs3 f__law_row) (aC (wV 2) (aC (wV 3) (aC (wC (.int 260)) aN)))))
  (sSeq (sSet 6 (wCall (fs3 f_pieces) (aC (wV 2) (aC (wV 3) (aC (wV 4) aN)))))
  (sSeq (sSet 7 (wLst aN))
  (sSeq (sFor (iR1 (wOp wAdd (oE (wOp wSub (oE (wUn wLen (oV 5))) (oV 4))) (oE (wC (.int 1))))) (gN 8) (sIf (wTst (wOp wNin (oE (wSlice (oV 5) (pS (wV 8)) (pS (wOp wAdd (oV 8) (oV 4))))) (oV 7))) (sExpr (wMut1 "list" 7 mAppend (wSlice (oV 5) (pS (wV 8)) (pS (wOp wAdd (oV 8) (oV 4)))))) sNext))
  (sSeq (sIf (wOr (wTst (wOp wNe (oV 6) (oE (wUn wSorted (oV 6))))) (wOr (wTst (wOp wGt (oE (wUn wLen (oE (wLc (iS (wV 7)) (gN 9) (wTst (wOp wNin (oV 9) (oV 6))) (wV 9) [9])))) (oE (wC (.int 0))))) (wTst (wOp wGt (oE (wUn wLen (oE (wLc (iR2 (wC (.int 1)) (wUn wLen (oV 6))) (gN 11) (wTst (wOp wEq (oE (wOp wIx (oV 6) (oV 11))) (oE (wOp wIx (oV 6) (oE (wOp wSub (oV 11) (oE (wC (.int 1))))))))) (wV 11) [11])))) (oE (wC (.int 0))))))) (sRet (wC (.bl false))) sNext)
  (sSeq (sFor (iS (wV 6)) (gN 9) (sSeq (sSet 10 (wCall (fs3 f_first_piece) (aC (wV 2) (aC (wV 3) (aC (wV 9) aN)))))
  (sJ (sIf (wOr (wTst (wOp wIsN (oV 10) (oE (wC .non)))) (wOr (wAnd (wTst (wOp wIn (oV 9) (oV 7))) (wTst (wOp wNe (oV 10) (oE (wMt1 "str" wIndexS (oV 5) (oV 9)))))) (wAnd (wTst (wOp wNin (oV 9) (oV 7))) (wTst (wOp wLt (oV 10) (oE (wOp wSub (oE (wUn wLen (oV 5))) (oV 4)))))))) (sRet (wC (.bl false))) sNext)
  (sFor (iR1 (wV 4)) (gN 11) (sIf (wTst (wOp wNe (oE (wCall (fs3 f_letter_at) (aC (wV 2) (aC (wV 3) (aC (wOp wAdd (oV 10) (oV 11)) aN))))) (oE (wOp wIx (oV 9) (oV 11))))) (sRet (wC (.bl false))) sNext)))))
  (sSeq (sSet 9 (wC (.str [])))
  (sSeq (sFor (iR1 (wV 4)) (gN 11) (sSet 9 (wOp wAdd (oV 9) (oE (wCallP 1 (ps1 f__law_pick) (aC (wLst (aC (wC (.str [120])) (aC (wC (.str [121])) (aC (wC (.str [122])) (aC (wC (.str [119])) aN))))) aN))))))
  (sJ (sIf (wTst (wOp wNe (oE (wOp wIsN (oE (wCall (fs3 f_first_piece) (aC (wV 2) (aC (wV 3) (aC (wV 9) aN))))) (oE (wC .non)))) (oE (wOp wNin (oV 9) (oV 6))))) (sRet (wC (.bl false))) sNext)
  (sSeq (sAsg (wCall (fs1 f_as_rules) (aC (wV 3) aN)) (gT 2 (gsC (gN 12) (gsC (gN 13) gsN))))
  (sSeq (sSet 14 (wC (.str [97])))
  (sSeq (sWhile (wTst (wOp wLt (oE (wUn wLen (oV 14))) (oE (wC (.int 200))))) (sSeq (sSet 15 (wC (.str [])))
  (sSeq (sFor (iS (wV 14)) (gN 16) (sSet 15 (wOp wAdd (oV 15) (oE (wOp wIx (oV 12) (oV 16))))))
  (sSeq (sIf (wTst (wOp wLe (oE (wUn wLen (oV 15))) (oE (wUn wLen (oV 14))))) (sRet (wC (.bl false))) sNext)
  (sSet 14 (wV 15))))))
  (sSeq (sSet 17 (wC (.str [])))
  (sSeq (sFor (iS (wSlice (oV 14) pN (pS (wC (.int 200))))) (gN 16) (sSet 17 (wOp wAdd (oV 17) (oE (wOp wIx (oV 13) (oV 16))))))
  (sSeq (sIf (wOr (wTst (wOp wNe (oV 17) (oE (wSlice (oV 5) pN (pS (wC (.int 200))))))) (wTst (wOp wNe (oE (wUn wSortK (oV 12))) (oE (wUn wSortK (oV 13)))))) (sRet (wC (.bl false))) sNext)
  (sSeq (sSet 18 (wCall (fs1 f__law_reached) (aC (wV 3) aN)))
  (sSeq (sFor (iR1 (wUn wLen (oV 18))) (gN 11) (sSeq (sAsg (wOp wIx (oE (wOp wIx (oV 3) (oE (wC (.int 1))))) (oE (wOp wIx (oV 18) (oV 11)))) (gT 2 (gsC (gN 16) (gsC (gN 19) gsN))))
  (sSeq (sIf (wTst (wOp wNe (oE (wOp wIx (oV 13) (oE (wOp wIx (oE (wC (.str [97, 98, 99, 100, 101, 102, 103, 104, 105, 106, 107, 108]))) (oV 11))))) (oV 16))) (sRet (wC (.bl false))) sNext)
  (sFor (iR1 (wV 2)) (gN 20) (sIf (wTst (wOp wNe (oE (wOp wIx (oE (wOp wIx (oV 12) (oE (wOp wIx (oE (wC (.str [97, 98, 99, 100, 101, 102, 103, 104, 105, 106, 107, 108]))) (oV 11))))) (oV 20))) (oE (wOp wIx (oE (wC (.str [97, 98, 99, 100, 101, 102, 103, 104, 105, 106, 107, 108]))) (oE (wMt1 "list" wIndexL (oV 18) (oE (wOp wIx (oV 19) (oV 20))))))))) (sRet (wC (.bl false))) sNext)))))
  (sRet (wC (.bl true))))))))))))))))))))))))
end PW.K57

set_option Elab.async false
set_option linter.all false
set_option autoImplicit false
set_option maxRecDepth 100000
set_option maxHeartbeats 4000000
set_option synthInstance.maxHeartbeats 2000000
set_option synthInstance.maxSize 1000000
set_option exponentiation.threshold 5000
namespace PW.K57
open PySem PySem.Spec PyProof.Rows L2 PW
local macro_rules | `(tactic| walk_at "sta") => `(tactic| with_reducible repeat (first | exact StaR.z | apply StaR.c | apply StaR.n))
local macro_rules | `(tactic| walk_at "start") => `(tactic| with_reducible first | refine LF2 (by walk_at "sta") ?_ | refine LF1 (by walk_at "sta") ?_ | refine LF3 (by walk_at "sta") ?_ | refine LF4 (by walk_at "sta") ?_ | refine LF0 (by walk_at "sta") ?_ | refine LF5 (by walk_at "sta") ?_ | refine LF6 (by walk_at "sta") ?_ | refine LP0 (by walk_at "sta") ?_ | refine LP1 (by walk_at "sta") ?_ | refine LP2 (by walk_at "sta") ?_ | refine LP3 (by walk_at "sta") ?_)
theorem enc_st (m : Aut) (x : Wo) : encSt (lett m x, stps m x) = .tup [.str [lett m x], .lst ((stps m x).map D.str)] := rfl
theorem law_states_at : ∀ a0 a1 a2 a3 Pp, f_states_at a0 a1 a2 a3 Pp → LF N_states_at w_states_at [a0, a1, a2, a3] Pp := by
  rintro a0 a1 a2 a3 Pp ⟨b, k, w, s, m, rfl, rfl, rfl, rfl, ⟨hA, hb, hb3, hk, hz⟩, hw, kk⟩
  unfold N_states_at w_states_at autD
  walk_at "start"
  refine ev_ ⟨⟨by omega, by omega, by omega, by omega⟩, ?_⟩
  refine x_forK (fun i E => ∃ z7 z8 z9, E = [some (.dat (.int b)), some (.dat (autD s m)), some (.dat (.int 0)), some (.dat (.int w)), some (.dat (.str s)), some (.dat (.dct false (kdD encSt m))), some (.own (.lst (((List.range i).map fun i => sa b s m (0 + i)).map D.str))), z7, z8, z9]) ⟨_, _, _, rfl⟩ ?_ ?_
  · rintro i d E hi ⟨z7, z8, z9, rfl⟩
    obtain ⟨hlt, rfl⟩ := rng_get hi
    have hn2 : i < 2 ^ 1900 := Nat.lt_of_lt_of_le (show i < 2 ^ 10 by omega) (Nat.pow_le_pow_right (by decide) (by decide))
    refine ev_ ⟨b, i, rfl, by congr 1; omega, hb, by omega, hn2, ?_⟩
    refine ev_ ?_
    refine x_forK (fun j E => ∃ z9, E = [some (.dat (.int b)), some (.dat (autD s m)), some (.dat (.int 0)), some (.dat (.int w)), some (.dat (.str s)), some (.dat (.dct false (kdD encSt m))), some (.own (.lst (((List.range i).map fun i => sa b s m (0 + i)).map D.str))), some (.dat (.int (0 + (i : Int)))), some (.dat (.str (((digs b i).take j).foldl (nxt m) s))), z9]) ⟨_, rfl⟩ ?_ ?_
    · rintro j d E hj ⟨z9, rfl⟩
      obtain ⟨c, hc, rfl⟩ := map_get hj
      have hx := fold_mem hA (l := (digs b i).take j) hA.st fun d hd => digs_lt hb i d (List.mem_of_mem_take hd)
      have hcb := digs_lt hb i c (List.mem_of_getElem? hc)
      generalize hxx : ((digs b i).take j).foldl (nxt m) s = x at hx ⊢
      obtain ⟨g1, g2, g3⟩ := hA.get hx
      obtain ⟨n1, n2⟩ := hA.nxt hx hcb
      refine ev_ ⟨rfl, _, lk_enc g1, ?_⟩
      rw [enc_st]
      refine ev_ ⟨nxt m x c, by rw [atI_nat]; exact n1, some (.dat (.int (c : Nat))), ?_⟩
      rw [take_snoc hc, List.foldl_append, hxx]; rfl
    · rintro E ⟨z9, rfl⟩
      rw [List.length_map, List.take_length]
      refine ev_ ⟨by simp only [List.length_map, List.length_range]; omega, some (.dat (.int (0 + (i : Int)))), some (.dat (.str (sa b s m i))), z9, ?_⟩
      rw [List.range_succ, List.map_append, List.map_append]
      simp only [List.map_cons, List.map_nil, Nat.zero_add]
      rfl
  · rintro E ⟨z7, z8, z9, rfl⟩
    rw [rng_len, show ((0 : Int) + (w : Int) - 0).toNat = w by omega]
    exact ev_ kk
def getW (m : Aut) (b : Nat) (W : Wn) (d : Nat) (x : D) : D := match x with
  | .int i => .str (nxt m ((W[(d + i.toNat) / b]?).getD []) ((d + i.toNat) % b))
  | _ => .non
theorem law_window_behind : ∀ a0 a1 a2 a3 Pp, f_window_behind a0 a1 a2 a3 Pp → LF N_window_behind w_window_behind [a0, a1, a2, a3] Pp := by
  rintro a0 a1 a2 a3 Pp ⟨b, k, w, n, d, s, m, rfl, rfl, rfl, rfl, ⟨hA, hb, hb3, hk, hz⟩, hw, hd, kk⟩
  unfold N_window_behind w_window_behind autD encW
  walk_at "start"
  refine ev_ ?_
  rw [List.length_map, wnd_len]
  refine ⟨⟨by omega, by omega⟩, ?_⟩
  refine x_lcM' (getW m b (wnd b s m w n) d) (fun i x hi => ?_) ?_
  · obtain ⟨hlt, rfl⟩ := rng_get hi
    have hiw : i < w := by omega
    have h1 := wb_ix hb hd hiw
    have h2 := wnd_get (b := b) (s := s) (m := m) (n := n) h1
    have hx := hA.sa hb (s := s) (n + (d + i) / b)
    obtain ⟨g1, g2, g3⟩ := hA.get hx
    obtain ⟨n1, n2⟩ := hA.nxt hx (Nat.mod_lt (d + i) (show 0 < b by omega))
    refine ev_ ⟨⟨by omega, by omega⟩, D.str (sa b s m (n + (d + i) / b)), ?_, rfl, _, lk_enc g1, ?_⟩
    · rw [show ((d : Int) + (0 + (i : Int))) / (b : Int) = (((d + i) / b : Nat) : Int) by rw [Int.zero_add]; norm_cast]
      rw [atI_nat, List.getElem?_map, h2]; rfl
    · rw [enc_st]
      refine ev_ ⟨by omega, nxt m (sa b s m (n + (d + i) / b)) ((d + i) % b), ?_, ?_⟩
      · rw [show ((d : Int) + (0 + (i : Int))) % (b : Int) = (((d + i) % b : Nat) : Int) by rw [Int.zero_add]; norm_cast]
        rw [atI_nat]; exact n1
      · refine yK_c hi (by rw [rng_len]; omega) rfl ?_
        show _ = D.str (nxt m (((wnd b s m w n)[(d + ((0 : Int) + (i : Int)).toNat) / b]?).getD []) ((d + ((0 : Int) + (i : Int)).toNat) % b))
        rw [show ((0 : Int) + (i : Int)).toNat = i by omega, h2]; rfl
  · have e1 : (rng 0 ((w : Int)).toNat).map (getW m b (wnd b s m w n) d) = (wb b m (wnd b s m w n) d).map D.str := by
      unfold rng wb
      rw [List.map_map, List.map_map, wnd_len, show ((w : Int)).toNat = w by omega]
      apply List.map_congr_left
      intro i _
      show D.str (nxt m (((wnd b s m w n)[(d + ((0 : Int) + (i : Int)).toNat) / b]?).getD []) ((d + ((0 : Int) + (i : Int)).toNat) % b)) = _
      rw [show ((0 : Int) + (i : Int)).toNat = i by omega]; rfl
    rw [e1, wb_wnd hb hz hd]
    exact ev_ kk
theorem law_word_of : ∀ a0 a1 Pp, f_word_of a0 a1 Pp → LF N_word_of w_word_of [a0, a1] Pp := by
  rintro a0 a1 Pp ⟨b, k, w, n, s, m, rfl, rfl, ⟨hA, hb, hb3, hk, hz⟩, hw, kk⟩
  unfold N_word_of w_word_of autD encW
  walk_at "start"
  refine ev_ ?_
  refine x_lcM' (fun d => match d with | .str x => .str [lett m x] | _ => .non) (fun i x hi => ?_) ?_
  · obtain ⟨x, hx, rfl⟩ := map_get hi
    have hxm : x ∈ nms m := by
      have := List.mem_of_getElem? hx
      unfold wnd at this
      obtain ⟨j, _, rfl⟩ := List.mem_map.mp this
      exact hA.sa hb _
    obtain ⟨g1, g2, g3⟩ := hA.get hxm
    refine ev_ ⟨rfl, _, lk_enc g1, ?_⟩
    rw [enc_st]
    refine ev_ ?_
    exact yK_c hi (by rw [List.length_map, wnd_len]; omega) rfl rfl
  · have e1 : ((wnd b s m w n).map D.str).map (fun d : D => match d with | .str x => .str [lett m x] | _ => .non) = ((wnd b s m w n).map fun x => [lett m x]).map D.str := by
      rw [List.map_map, List.map_map]; rfl
    rw [e1]
    refine ev_ ⟨?_, ?_⟩
    · rw [List.map_map, List.length_map, wnd_len]
      have : ∀ l : List Wo, (l.map (List.length ∘ fun x => [lett m x])).sum = l.length := fun l => by
        induction l with
        | nil => rfl
        | cons a l ih => rw [List.map_cons, List.sum_cons, ih, List.length_cons]; show 1 + _ = _; omega
      rw [this, wnd_len]
      simp
      omega
    · rw [joinD_empty]
      have : ∀ l : List Wo, (l.map fun x => [lett m x]).flatten = l.map (lett m) := fun l => by
        induction l with
        | nil => rfl
        | cons a l ih => rw [List.map_cons, List.flatten_cons, ih]; rfl
      rw [this, ← pce_wnd]
      exact kk

def lw (b : Nat) (s : Wo) (m : Aut) (w : Nat) (F : List Nat) : List D := F.map fun p => encW (wnd b s m w p)
theorem lw_snoc (b : Nat) (s : Wo) (m : Aut) (w : Nat) (F : List Nat) (c : Nat) : lw b s m w (F ++ [c]) = lw b s m w F ++ [encW (wnd b s m w c)] := by unfold lw; rw [List.map_append]; rfl
theorem asc_mid {A B : List Nat} {p : Nat} (h : (A ++ p :: B).Pairwise (· < ·)) : (∀ q ∈ A, q < p) ∧ ∀ q ∈ B, p < q := by
  obtain ⟨_, h2, h3⟩ := List.pairwise_append.mp h
  exact ⟨fun q hq => h3 q hq p List.mem_cons_self, fun q hq => (List.pairwise_cons.mp h2).1 q hq⟩
theorem law_windows : ∀ a0 a1 a2 Pp, f_windows a0 a1 a2 Pp → LF N_windows w_windows [a0, a1, a2] Pp := by
  rintro a0 a1 a2 Pp ⟨b, k, w, s, m, rfl, rfl, rfl, ⟨hA, hb, hb3, hk, hz⟩, hw, kk⟩
  unfold N_windows w_windows autD
  walk_at "start"
  have hW2 : W2 b s m k := ⟨hA, hb, hb3, hk, hz⟩
  refine ev_ ⟨b, k, w, s, m, rfl, rfl, rfl, rfl, hW2, hw, ?_⟩
  refine ev_ ⟨encW_key _, ?_⟩
  refine x_while (fun r E => ∃ (dn Ly : List Nat) (u : Nat) (z6 z7 z8 z9 : Option B), Bfs b s m w (dn ++ Ly) (b * u) ∧ (∀ p ∈ dn, p < u) ∧ (∀ p ∈ Ly, u ≤ p) ∧ r = 244 - dn.length ∧ E = [some (.dat (.int b)), some (.dat (autD s m)), some (.dat (.int w)), some (.dat (encW (wnd b s m w 0))), some (.own (.dct true (wdD b s m w (dn ++ Ly)))), some (.own (.lst (lw b s m w Ly))), z6, z7, z8, z9]) _ ⟨[], [0], 0, _, _, _, _, bfs_0 hb, by simp, by simp, rfl, rfl⟩ ?_
  rintro r E ⟨dn, Ly, u, z6, z7, z8, z9, hB, hdn, hLy, rfl, rfl⟩
  have hfew := hB.few hA hk hw hb
  rw [List.length_append] at hfew
  refine ev_ ?_
  refine ev_iteM (fun g => ?_) (fun g => ?_)
  · have hLn : 0 < Ly.length := by
      cases Ly with
      | nil => cases g
      | cons a l => simp
    refine x_forK (fun j E => ∃ (F : List Nat) (u : Nat) (z7 z8 z9 : Option B), Bfs b s m w (dn ++ Ly ++ F) (b * u) ∧ (∀ p ∈ dn ++ Ly.take j, p < u) ∧ (∀ p ∈ Ly.drop j ++ F, u ≤ p) ∧ E = [some (.dat (.int b)), some (.dat (autD s m)), some (.dat (.int w)), some (.dat (encW (wnd b s m w 0))), some (.own (.dct true (wdD b s m w (dn ++ Ly ++ F)))), some (.dat (.lst (lw b s m w Ly))), some (.own (.lst (lw b s m w F))), z7, z8, z9]) ⟨[], u, z7, z8, z9, by simpa using hB, by simpa using hdn, by simpa using hLy, by rw [List.append_nil]; rfl⟩ ?_ ?_
    · rintro j d0 E hj ⟨F, u, z7, z8, z9, hB, h1, h2, rfl⟩
      unfold lw at hj
      obtain ⟨p, hp, rfl⟩ := map_get hj
      have hjl := (List.getElem?_eq_some_iff.mp hp).1
      have hpe := (List.getElem?_eq_some_iff.mp hp).2
      have hdrop : Ly.drop j = p :: Ly.drop (j + 1) := by rw [List.drop_eq_getElem_cons hjl, hpe]
      have hpm : p ∈ Ly := List.mem_of_getElem? hp
      have hup : u ≤ p := h2 p (by rw [hdrop]; simp)
      have hsplit : dn ++ Ly ++ F = (dn ++ Ly.take j) ++ p :: (Ly.drop (j + 1) ++ F) := by
        conv => lhs; rw [← List.take_append_drop j Ly, hdrop]
        simp
      have hasc := asc_mid (hsplit ▸ hB.asc)
      refine ev_ ⟨⟨by omega, by omega⟩, ?_⟩
      have hBj : Bfs b s m w (dn ++ Ly ++ F) (b * p) := by
        refine hB.jump hb hz (by rw [hsplit]; simp) (fun q hq hlt => ?_) (Nat.mul_le_mul_left _ hup)
        have hqu : q < u := by
          rw [hsplit] at hq
          rcases List.mem_append.mp hq with z | z
          · exact h1 q z
          · rcases List.mem_cons.mp z with e | e
            · omega
            · have := hasc.2 q e; omega
        have := Nat.mul_le_mul_left b (show q + 1 ≤ u from hqu)
        rw [Nat.mul_succ] at this
        exact this
      refine x_forK (fun d E => ∃ (F : List Nat) (z8 z9 : Option B), Bfs b s m w (dn ++ Ly ++ F) (b * p + d) ∧ (∀ q ∈ Ly.drop (j + 1) ++ F, p + 1 ≤ q) ∧ E = [some (.dat (.int b)), some (.dat (autD s m)), some (.dat (.int w)), some (.dat (encW (wnd b s m w 0))), some (.own (.dct true (wdD b s m w (dn ++ Ly ++ F)))), some (.dat (.lst (lw b s m w Ly))), some (.own (.lst (lw b s m w F))), some (.dat (encW (wnd b s m w p))), z8, z9]) ⟨F, z8, z9, hBj, fun q hq => hasc.2 q hq, rfl⟩ ?_ ?_
      · rintro d d0 E hd ⟨F, z8, z9, hB, hF, rfl⟩
        obtain ⟨hlt, rfl⟩ := rng_get hd
        have hdb : d < b := by omega
        have hfew := hB.few hA hk hw hb
        have hpin : p ∈ dn ++ Ly ++ F := by simp [hpm]
        refine ev_ ⟨b, k, w, p, d, s, m, rfl, rfl, rfl, by congr 1; omega, hW2, hw, hdb, ?_⟩
        refine ev_ ⟨encW_key _, ?_⟩
        rw [look_is]
        refine ev_iteN (fun e => ?_) (fun e => ?_)
        · refine ⟨encW_key _, _, look_some hB hpin, ?_⟩
          refine ev_ ⟨mul_l ⟨by omega, by omega⟩, encW_key _, by unfold wdD; rw [List.length_map]; omega, ?_⟩
          rw [show (b : Int) * (p : Int) + (0 + (d : Int)) = ((b * p + d : Nat) : Int) by rw [Int.zero_add]; norm_cast]
          rw [put_new e]
          obtain ⟨hN, hq⟩ := hB.new hb e hpin hdb rfl
          have hFl : F.length ≤ 243 := by
            rw [List.length_append] at hfew; omega
          refine ⟨by unfold lw; rw [List.length_map]; omega, F ++ [b * p + d], some (.dat (.int (0 + (d : Int)))), some (.dat (encW (wnd b s m w (b * p + d)))), by rw [← List.append_assoc]; exact hN, fun q hq2 => ?_, ?_⟩
          · rw [← List.append_assoc] at hq2
            rcases List.mem_append.mp hq2 with z | z
            · exact hF q z
            · rw [List.mem_singleton.mp z]; exact hq p hpin
          · rw [lw_snoc, List.append_assoc (dn ++ Ly)]
        · exact ⟨F, _, _, hB.old e, hF, rfl⟩
      · rintro E ⟨F, z8, z9, hB, hF, rfl⟩
        rw [rng_len, show ((b : Int)).toNat = b by omega] at hB
        refine ⟨F, p + 1, _, _, _, by rw [Nat.mul_succ]; exact hB, fun q hq => ?_, hF, rfl⟩
        rw [take_snoc hp, ← List.append_assoc] at hq
        rcases List.mem_append.mp hq with z | z
        · have := h1 q z; omega
        · rw [List.mem_singleton.mp z]; omega
    · rintro E ⟨F, u, z7, z8, z9, hB, h1, h2, rfl⟩
      unfold lw at h1 h2
      rw [List.length_map, List.take_length] at h1
      rw [List.length_map, List.drop_length, List.nil_append] at h2
      have hfew := hB.few hA hk hw hb
      rw [List.length_append, List.length_append] at hfew
      refine ev_ ⟨244 - (dn ++ Ly).length, by rw [List.length_append]; omega, dn ++ Ly, F, u, _, _, _, _, hB, h1, h2, rfl, rfl⟩
  · have hL : Ly = [] := by
      cases Ly with
      | nil => rfl
      | cons a l => cases g
    subst hL
    rw [List.append_nil] at hB
    rw [List.append_nil]
    refine ev_ ?_
    refine kk dn (hB.wins hA hk hw hb hb3 hz fun p hp => ?_)
    have := Nat.mul_le_mul_left b (show p + 1 ≤ u from hdn p hp)
    rw [Nat.mul_succ] at this
    exact this
theorem wins_words {b : Nat} {s : Wo} {m : Aut} {w : Nat} {pl : List Nat} (h : Wins b s m w pl) (u : Wo) : (∃ n, pce b s m w n = u) ↔ u ∈ pl.map (pce b s m w) := by
  rw [List.mem_map]
  constructor
  · rintro ⟨n, e⟩
    obtain ⟨p, hp, e2⟩ := h.all n
    exact ⟨p, hp, by rw [pce_wnd, ← e2, ← pce_wnd]; exact e⟩
  · rintro ⟨p, _, e⟩
    exact ⟨p, e⟩
theorem keys_wd {b : Nat} {s : Wo} {m : Aut} {w : Nat} (pl : List Nat) : (wdD b s m w pl).map (·.1) = pl.map fun p => encW (wnd b s m w p) := by unfold wdD; rw [List.map_map]; rfl
def fP (m : Aut) (d : D) : D := match d with
  | .tup l => .str (l.map fun x => match x with | .str x => lett m x | _ => 0)
  | _ => .non
theorem fP_w {b : Nat} {s : Wo} {m : Aut} {w n : Nat} : fP m (encW (wnd b s m w n)) = .str (pce b s m w n) := by
  show D.str (((wnd b s m w n).map D.str).map fun x => match x with | .str x => lett m x | _ => 0) = _
  rw [List.map_map, pce_wnd]; rfl
theorem law_pieces : ∀ a0 a1 a2 Pp, f_pieces a0 a1 a2 Pp → LF N_pieces w_pieces [a0, a1, a2] Pp := by
  rintro a0 a1 a2 Pp ⟨b, k, w, s, m, rfl, rfl, rfl, ⟨hA, hb, hb3, hk, hz⟩, hw, kk⟩
  unfold N_pieces w_pieces autD
  walk_at "start"
  have hW2 : W2 b s m k := ⟨hA, hb, hb3, hk, hz⟩
  refine ev_ ⟨b, k, w, s, m, rfl, rfl, rfl, hW2, hw, fun pl hpl => ?_⟩
  refine ev_ ?_
  rw [keys_wd]
  refine x_lcM' (fP m) (fun i x hi => ?_) ?_
  · obtain ⟨p, hp, rfl⟩ := map_get hi
    have hf := hpl.few
    refine ev_ ⟨b, k, w, p, s, m, rfl, rfl, hW2, hw, ?_⟩
    exact yK_c hi (by rw [List.length_map]; omega) rfl fP_w.symm
  · have e1 : (pl.map fun p => encW (wnd b s m w p)).map (fP m) = (pl.map (pce b s m w)).map D.str := by
      rw [List.map_map, List.map_map]
      apply List.map_congr_left
      intro p _
      exact fP_w
    rw [e1]
    have hf := hpl.few
    refine ev_ ⟨⟨allTx_strs _, by rw [List.length_map, List.length_map]; omega⟩, fun m' hm hl => ?_⟩
    rw [setSort_strs hm]
    exact kk pl hpl
theorem law_first_piece : ∀ a0 a1 a2 Pp, f_first_piece a0 a1 a2 Pp → LF N_first_piece w_first_piece [a0, a1, a2] Pp := by
  rintro a0 a1 a2 Pp ⟨b, k, s, m, u, rfl, rfl, rfl, ⟨hA, hb, hb3, hk, hz⟩, hu, k1, k2⟩
  unfold N_first_piece w_first_piece autD
  walk_at "start"
  have hW2 : W2 b s m k := ⟨hA, hb, hb3, hk, hz⟩
  generalize hwu : u.length = w at hu k1 k2
  refine ev_ ⟨by omega, b, k, w, s, m, rfl, rfl, by rw [hwu], hW2, hu, fun pl hpl => ?_⟩
  refine ev_ ?_
  rw [keys_wd]
  have hf := hpl.few
  refine x_lcF' (fun d => eqD (fP m d) (.str u)) (fun d => (lookD (wdD b s m w pl) d).getD .non) (fun i x hi => ?_) ?_
  · obtain ⟨p, hp, rfl⟩ := map_get hi
    refine ev_ ⟨b, k, w, p, s, m, rfl, rfl, hW2, hu, ?_⟩
    refine ev_ ?_
    refine ev_ite (fun e => ?_) (fun e => ?_)
    · refine ⟨encW_key _, _, look_wins hpl (List.mem_of_getElem? hp), ?_⟩
      exact yK_c hi (by rw [List.length_map]; omega) (by rw [fP_w, eqD_str, decide_eq_true e]) (by rw [look_wins hpl (List.mem_of_getElem? hp)]; rfl)
    · exact nK_c hi (by rw [fP_w, eqD_str, decide_eq_false e])
  · have e1 : ((pl.map fun p => encW (wnd b s m w p)).filter fun d => eqD (fP m d) (.str u)).map (fun d => (lookD (wdD b s m w pl) d).getD .non) = ((pl.filter fun p => decide (pce b s m w p = u)).map fun p => ((p : Nat) : Int)).map D.int := by
      rw [List.filter_map, List.map_map, List.map_map]
      have : ((fun d => eqD (fP m d) (.str u)) ∘ fun p => encW (wnd b s m w p)) = fun p => decide (pce b s m w p = u) := by
        funext p
        show eqD (fP m (encW (wnd b s m w p))) (.str u) = _
        rw [fP_w, eqD_str]
      rw [this]
      apply List.map_congr_left
      intro p hp
      show (lookD (wdD b s m w pl) (encW (wnd b s m w p))).getD .non = _
      rw [look_wins hpl (List.mem_filter.mp hp).1]; rfl
    rw [e1]
    refine ev_ ?_
    have hFL : ∀ q, q ∈ pl.filter (fun p => decide (pce b s m w p = u)) ↔ q ∈ pl ∧ pce b s m w q = u := fun q => by rw [List.mem_filter, decide_eq_true_iff]
    generalize pl.filter (fun p => decide (pce b s m w p = u)) = FL at hFL ⊢
    refine ev_iteM (fun g => ?_) (fun g => ?_)
    · refine ⟨?_, fun t ht hmin => ?_⟩
      · rw [List.length_map]
        cases FL with
        | nil => cases g
        | cons a l => simp
      · obtain ⟨p, hp, rfl⟩ := List.mem_map.mp ht
        obtain ⟨h1, h2⟩ := (hFL p).mp hp
        refine k2 p (hpl.big p h1) h2 fun i hi e => ?_
        obtain ⟨q, hq, eq⟩ := hpl.all i
        have hqi : q ≤ i := by
          rcases Nat.lt_or_ge i q with z | z
          · exact (hpl.min q hq i z eq).elim
          · exact z
        have hqu : pce b s m w q = u := by rw [pce_wnd, ← eq, ← pce_wnd]; exact e
        have := hmin q (List.mem_map.mpr ⟨q, (hFL q).mpr ⟨hq, hqu⟩, rfl⟩)
        omega
    · have hn : FL = [] := by
        cases FL with
        | nil => rfl
        | cons a l => cases g
      subst hn
      refine k1 fun n e => ?_
      obtain ⟨q, hq, eq⟩ := hpl.all n
      have hqu : pce b s m w q = u := by rw [pce_wnd, ← eq, ← pce_wnd]; exact e
      exact absurd ((hFL q).mpr ⟨hq, hqu⟩) List.not_mem_nil
theorem law_as_rules : ∀ a0 Pp, f_as_rules a0 Pp → LF N_as_rules w_as_rules [a0] Pp := by
  rintro a0 Pp ⟨b, k, s, m, rfl, ⟨hA, hb, hb3, hk, hz⟩, kk⟩
  unfold N_as_rules w_as_rules autD
  walk_at "start"
  refine ev_ ⟨b, k, s, m, rfl, hA, by omega, by omega, ?_⟩
  have hR := rchS_ok hA
  generalize rchS m s = R at hR kk ⊢
  have hRl : R.length ≤ 3 := by
    have := nodup_len hR.nd hR.sub
    unfold nms at this
    rw [List.length_map] at this
    have := hA.le
    omega
  refine ev_ ?_
  refine x_dcM (fun d => match d with | .tup [_, x] => x | _ => .non) (fun d => match d with | .tup [.int i, _] => .str [97 + i.toNat] | _ => .non) (fun i d hi => ?_) ?_
  · obtain ⟨x0, hx0, rfl⟩ := enumD_get hi
    obtain ⟨x, hx, rfl⟩ := map_get hx0
    have hil := (List.getElem?_eq_some_iff.mp hx).1
    refine ev_ ⟨by decide, 97 + i, by rw [atI_nat]; exact abcL_get i (by omega), ?_⟩
    exact ddK_c hi (by rw [enumD_len, List.length_map]; omega) rfl rfl rfl
  · have e1 : kvD (fun d => match d with | .tup [_, x] => x | _ => .non) (fun d => match d with | .tup [.int i, _] => .str [97 + i.toNat] | _ => .non) (enumD (R.map D.str)) = kdD D.str (namL R) := by
      rw [kvD_distinct]
      · unfold kdD namL
        rw [List.map_map]
        apply List.ext_getElem?
        intro i
        rw [List.getElem?_map, List.getElem?_map]
        cases hx : R[i]? with
        | none =>
          have : (enumD (R.map D.str))[i]? = none := by
            rw [List.getElem?_eq_none_iff, enumD_len, List.length_map]
            exact List.getElem?_eq_none_iff.mp hx
          rw [this]; rfl
        | some x =>
          have hil := (List.getElem?_eq_some_iff.mp hx).1
          cases hd : (enumD (R.map D.str))[i]? with
          | none =>
            rw [List.getElem?_eq_none_iff, enumD_len, List.length_map] at hd
            omega
          | some d =>
            obtain ⟨x0, hx0, rfl⟩ := enumD_get hd
            rw [List.getElem?_map, hx] at hx0
            cases hx0
            show some ((.str x, D.str [97 + ((i : Nat) : Int).toNat]) : D × D) = some (.str x, .str [97 + ix R x])
            rw [ix_get hR.nd hx]; rfl
      · refine enum_pw fun i j a c hij ha hc => ?_
        obtain ⟨x, hx, rfl⟩ := map_get ha
        obtain ⟨y, hy, rfl⟩ := map_get hc
        show eqD (.str x) (.str y) = false
        rw [eqD_str, decide_eq_false_iff_not]
        rintro rfl
        have h1 := ix_get hR.nd hx
        have h2 := ix_get hR.nd hy
        omega
    rw [e1]
    have hix : ∀ x ∈ R, ix R x < 3 := fun x hx => by have := ix_lt hR.nd hx; omega
    refine ev_ ?_
    refine x_dcM (fun d => match d with | .str x => .str [97 + ix R x] | _ => .non) (fun d => match d with | .str x => .str ((stps m x).map fun y => 97 + ix R y) | _ => .non) (fun i d hi => ?_) ?_
    · obtain ⟨x, hx, rfl⟩ := map_get hi
      have hxR := List.mem_of_getElem? hx
      obtain ⟨g1, g2, g3⟩ := hA.get (hR.sub x hxR)
      refine ev_ ⟨rfl, .str [97 + ix R x], by rw [lookD_kdD, lk_nam hxR]; rfl, ?_⟩
      refine ⟨rfl, _, lk_enc g1, ?_⟩
      rw [enc_st]
      refine ev_ ?_
      refine x_lcM' (fun d => match d with | .str y => .str [97 + ix R y] | _ => .non) (fun i' d hi' => ?_) ?_
      · obtain ⟨y, hy, rfl⟩ := map_get hi'
        have hyR := hR.cl x hxR y (List.mem_of_getElem? hy)
        refine ev_ ⟨rfl, .str [97 + ix R y], by rw [lookD_kdD, lk_nam hyR]; rfl, ?_⟩
        exact yK_c hi' (by rw [List.length_map]; omega) rfl rfl
      · have e2 : ((stps m x).map D.str).map (fun d : D => match d with | .str y => .str [97 + ix R y] | _ => .non) = ((stps m x).map fun y => [97 + ix R y]).map D.str := by
          rw [List.map_map, List.map_map]; rfl
        rw [e2]
        have e3 : ∀ l : List Wo, ((l.map fun y => [97 + ix R y]).map (·.length)).sum = l.length ∧ (l.map fun y => [97 + ix R y]).flatten = l.map fun y => 97 + ix R y := fun l => by
          induction l with
          | nil => exact ⟨rfl, rfl⟩
          | cons a l ih =>
            rw [List.map_cons, List.map_cons, List.sum_cons, List.flatten_cons, ih.1, ih.2]
            exact ⟨by show 1 + l.length = l.length + 1; omega, rfl⟩
        refine ev_ ⟨by rw [(e3 _).1, List.length_map]; simp; omega, ?_⟩
        rw [joinD_empty, (e3 _).2]
        exact ddK_c hi (by rw [List.length_map]; omega) rfl rfl rfl
    · have hpw : (R.map D.str).Pairwise fun a b => eqD ((fun d => match d with | .str x => .str [97 + ix R x] | _ => .non) a : D) ((fun d => match d with | .str x => .str [97 + ix R x] | _ => .non) b) = false := by
        rw [List.pairwise_map]
        refine List.Pairwise.imp_of_mem ?_ hR.nd
        intro x y hx hy hne
        show eqD (.str [97 + ix R x]) (.str [97 + ix R y]) = false
        rw [eqD_str, decide_eq_false_iff_not]
        intro e
        exact hne (ix_inj hR.nd hx hy (by have := (List.cons.inj e).1; omega))
      rw [kvD_distinct _ _ _ hpw]
      have e4 : ((R.map D.str).map fun d => (((match d with | .str x => .str [97 + ix R x] | _ => .non), (match d with | .str x => .str ((stps m x).map fun y => 97 + ix R y) | _ => .non)) : D × D)) = kdD D.str (rulesL m R) := by
        unfold kdD rulesL
        rw [List.map_map, List.map_map]; rfl
      rw [e4]
      refine ev_ ?_
      refine x_dcM (fun d => match d with | .str x => .str [97 + ix R x] | _ => .non) (fun d => match d with | .str x => .str [lett m x] | _ => .non) (fun i d hi => ?_) ?_
      · obtain ⟨x, hx, rfl⟩ := map_get hi
        have hxR := List.mem_of_getElem? hx
        obtain ⟨g1, g2, g3⟩ := hA.get (hR.sub x hxR)
        refine ev_ ⟨rfl, .str [97 + ix R x], by rw [lookD_kdD, lk_nam hxR]; rfl, ?_⟩
        refine ⟨rfl, _, lk_enc g1, ?_⟩
        rw [enc_st]
        refine ev_ ?_
        exact ddK_c hi (by rw [List.length_map]; omega) rfl rfl rfl
      · rw [kvD_distinct _ _ _ hpw]
        have e5 : ((R.map D.str).map fun d => (((match d with | .str x => .str [97 + ix R x] | _ => .non), (match d with | .str x => .str [lett m x] | _ => .non)) : D × D)) = kdD D.str (lettL m R) := by
          unfold kdD lettL
          rw [List.map_map, List.map_map]; rfl
        rw [e5]
        exact ev_ kk
structure Row (b : Nat) (s : Wo) (m : Aut) (row : Wo) : Prop where
  len : row.length = 260
  get : ∀ i, i < 260 → row[i]? = some (lett m (sa b s m i))
  pc : ∀ n w, n + w ≤ 260 → (row.drop n).take w = pce b s m w n
theorem row_mk (b : Nat) (s : Wo) (m : Aut) : Row b s m ((List.range 260).map fun i => lett m (sa b s m i)) := by
  have hg : ∀ i, i < 260 → ((List.range 260).map fun i => lett m (sa b s m i))[i]? = some (lett m (sa b s m i)) := fun i hi => by
    rw [List.getElem?_map, List.getElem?_range hi]; rfl
  refine ⟨by rw [List.length_map, List.length_range], hg, fun n w h => ?_⟩
  apply List.ext_getElem?
  intro i
  rw [List.getElem?_take]
  split
  · rename_i hi
    rw [List.getElem?_drop, hg _ (by omega), pce_get hi]
  · rename_i hi
    rw [List.getElem?_eq_none (by rw [pce_len]; omega)]
theorem cut_two (x : Wo) (j w : Nat) : cut x (some (0 + (j : Int))) (some (0 + (j : Int) + (w : Int))) = (x.drop j).take w := by
  have := piece_eq x (List.replicate w 0) j
  rw [List.length_replicate] at this
  exact this
theorem law_law : ∀ a0 Pp, f_law a0 Pp → LF N_law w_law [a0] Pp := by
  rintro a0 Pp ⟨ns, rfl, hn, kk⟩
  unfold N_law w_law
  walk_at "start"
  refine ev_ ?_
  intro x0 hx0
  refine ⟨hx0, ⟨by decide, by decide⟩, fun v x1 v0 v1 hx1 => ?_⟩
  obtain ⟨b0, rfl⟩ := Int.eq_ofNat_of_zero_le v0
  refine ⟨hx1, ⟨by decide, by decide⟩, fun v x2 u0 u1 hx2 => ?_⟩
  obtain ⟨k0, rfl⟩ := Int.eq_ofNat_of_zero_le u0
  refine ⟨hx2, 2 + b0, 1 + k0, by congr 1, by congr 1, by omega, by omega, by omega, by omega, fun s m x3 hD hml hx3 => ?_⟩
  have hA := hD.toAutW
  have hz := hD.lp
  have hlt := hD.lt
  generalize hb : 2 + b0 = b at hA hml hD
  generalize hk : 1 + k0 = k at hA hml hD
  have hW2 : W2 b s m k := ⟨hA, by omega, by omega, by omega, hz⟩
  have hb2 : 2 ≤ b := by omega
  rw [show (2 : Int) + (b0 : Int) = (b : Int) by omega]
  refine ev_ ⟨hx3, ⟨by decide, by decide⟩, fun v x4 v0 v1 hx4 => ?_⟩
  obtain ⟨w0, rfl⟩ := Int.eq_ofNat_of_zero_le v0
  rw [show (1 : Int) + (w0 : Int) = ((1 + w0 : Nat) : Int) by omega]
  generalize hw : 1 + w0 = w
  refine ⟨b, 260, k, s, m, rfl, rfl, rfl, hA, hb2, by omega, by decide, ?_⟩
  refine ev_ ⟨b, k, w, s, m, rfl, rfl, rfl, hW2, by omega, fun pl hpl => ?_⟩
  refine ev_ ?_
  have hrow := row_mk b s m
  generalize ((List.range 260).map fun i => lett m (sa b s m i)) = row at hrow ⊢
  have hrl := hrow.len
  have hwds := wins_words hpl
  have hpf := hpl.few
  have htl : (sset (pl.map (pce b s m w))).length ≤ 243 := by
    have := nodup_len (sset_nodup (pl.map (pce b s m w))) fun x hx => sset_mem.mp hx
    rw [List.length_map] at this; omega
  have htm : ∀ u, u ∈ sset (pl.map (pce b s m w)) ↔ ∃ n, pce b s m w n = u := fun u => by rw [sset_mem, hwds]
  have htn := sset_nodup (pl.map (pce b s m w))
  have htp := sset_pw (pl.map (pce b s m w))
  generalize sset (pl.map (pce b s m w)) = T at htl htm htn htp ⊢
  have hlet : ∀ x ∈ nms m, lett m x = 120 ∨ lett m x = 121 ∨ lett m x = 122 := fun x hx => by
    obtain ⟨v, h1, h2⟩ := lk_get hx
    have := hlt _ h2
    unfold lett; rw [h1]; exact this
  have hok : ∀ u, (∃ n, pce b s m w n = u) → okS u := fun u hu c hc => by
    obtain ⟨n, rfl⟩ := hu
    unfold pce at hc
    obtain ⟨i, _, rfl⟩ := List.mem_map.mp hc
    rcases hlet _ (hA.sa hb2 (n + i)) with e | e | e <;> rw [e] <;> decide
  refine ⟨by omega, ⟨by omega, by omega⟩, ?_⟩
  refine x_forK (fun i E => ∃ (NL : List Wo) (z8 : Option B), (∀ u, u ∈ NL ↔ ∃ n, n < i ∧ pce b s m w n = u) ∧ NL.length ≤ i ∧ E = [some (.dat (.scr ns)), some (.own x4), some (.dat (.int b)), some (.dat (autD s m)), some (.dat (.int w)), some (.dat (.str row)), some (.own (.lst (T.map D.str))), some (.own (.lst (NL.map D.str))), z8, none, none, none, none, none, none, none, none, none, none, none, none]) ⟨[], _, by simp, by simp, rfl⟩ ?_ ?_
  · rintro i d E hi ⟨NL, z8, h1, h2, rfl⟩
    obtain ⟨hlt, rfl⟩ := rng_get hi
    have hiw : i + w ≤ 260 := by omega
    refine ev_ ⟨by omega, .inl ⟨rfl, flat_strs _⟩, ?_⟩
    rw [cut_two, hrow.pc i w hiw, anyD_strs]
    refine ev_iteN (fun e => ?_) (fun e => ?_)
    · refine ⟨by omega, ?_⟩
      rw [cut_two, hrow.pc i w hiw]
      refine ⟨by rw [List.length_map]; omega, NL ++ [pce b s m w i], some (.dat (.int (0 + (i : Int)))), fun u => ?_, by rw [List.length_append, List.length_singleton]; omega, by rw [List.map_append]; rfl⟩
      rw [List.mem_append, h1, List.mem_singleton]
      constructor
      · rintro (⟨n, a, c⟩ | e)
        · exact ⟨n, by omega, c⟩
        · exact ⟨i, by omega, e.symm⟩
      · rintro ⟨n, a, c⟩
        rcases Nat.lt_or_ge n i with z | z
        · exact .inl ⟨n, z, c⟩
        · exact .inr (by rw [← c, show n = i by omega])
    · refine ⟨NL, _, fun u => ?_, by omega, rfl⟩
      rw [h1]
      constructor
      · rintro ⟨n, a, c⟩; exact ⟨n, by omega, c⟩
      · rintro ⟨n, a, c⟩
        rcases Nat.lt_or_ge n i with z | z
        · exact ⟨n, z, c⟩
        · rw [show n = i by omega] at c
          rw [c] at e
          exact (h1 u).mp e
  · rintro E ⟨NL, z8, h1, h2, rfl⟩
    rw [rng_len, show ((row.length : Int) - (w : Int) + 1).toNat = 261 - w by omega] at h1 h2
    have hsrt : srtW T = T := srt_eq (srtW_nodup htn) htn (fun x => srtW_mem) (srtW_pw T) htp
    have hokT : okD (.lst (T.map D.str)) = true := (okN_strs fun u hu => hok u ((htm u).mp hu)).ok
    refine ev_ ⟨sortOk_strs fun u hu => hok u ((htm u).mp hu), ?_⟩
    rw [sort_strs, hsrt]
    refine ev_ ⟨hokT, hokT, ?_⟩
    rw [eqD_strs, decide_eq_true rfl]
    refine ev_ ?_
    have hNT : ∀ u ∈ NL, u ∈ T := fun u hu => by
      obtain ⟨n, _, e⟩ := (h1 u).mp hu
      exact (htm u).mpr ⟨n, e⟩
    refine x_lcF' (fun d => !anyD d (T.map D.str)) id (fun i d hi => ?_) ?_
    · obtain ⟨u, hu, rfl⟩ := map_get hi
      refine ev_ ⟨.inl ⟨rfl, flat_strs _⟩, ?_⟩
      rw [anyD_strs]
      refine ev_iteN (fun e => ?_) (fun e => ?_)
      · exact yK_c hi (by rw [List.length_map]; omega) (by rw [anyD_strs, decide_eq_false e]; rfl) rfl
      · exact nK_c hi (by rw [anyD_strs, decide_eq_true e]; rfl)
    have ef : ((NL.map D.str).filter fun d => !anyD d (T.map D.str)).map id = [] := by
      rw [List.map_id, List.filter_eq_nil_iff]
      intro d hd
      obtain ⟨u, hu, rfl⟩ := List.mem_map.mp hd
      rw [anyD_strs, decide_eq_true (hNT u hu)]; decide
    rw [ef]
    refine ev_ ?_
    rw [decide_eq_false (show ¬ ((0 : Int) < ((([] : List D).length : Nat) : Int)) by decide), if_neg Bool.false_ne_true]
    refine ev_ ?_
    rw [List.length_map]
    refine ⟨⟨by omega, by omega, by omega, by omega⟩, ?_⟩
    refine x_lcF' (fun _ => false) id (fun i d hi => ?_) ?_
    · obtain ⟨hlt, rfl⟩ := rng_get hi
      have hi1 : i + 1 < T.length := by omega
      refine ev_ ⟨T[i + 1], by rw [show (1 : Int) + (i : Int) = ((i + 1 : Nat) : Int) by omega, atI_nat]; exact List.getElem?_eq_getElem hi1, T[i], by rw [show (1 : Int) + (i : Int) - 1 = ((i : Nat) : Int) by omega, atI_nat]; exact List.getElem?_eq_getElem (by omega), ?_⟩
      refine ev_ite (fun e => ?_) (fun e => ?_)
      · exact ((List.pairwise_iff_getElem.mp htn) i (i + 1) (by omega) hi1 (by omega) e.symm).elim
      · exact nK_c hi rfl
    have ef2 : ∀ l : List D, ((l.filter fun _ => false).map id) = [] := fun l => by rw [List.map_id, List.filter_eq_nil_iff]; intro d _; decide
    rw [ef2]
    refine ev_ ?_
    rw [decide_eq_false (show ¬ ((0 : Int) < ((([] : List D).length : Nat) : Int)) by decide), if_neg Bool.false_ne_true]
    refine ev_ ?_
    refine x_forK (fun i E => ∃ (z9 z10 z11 : Option B), E = [some (.dat (.scr ns)), some (.own x4), some (.dat (.int b)), some (.dat (autD s m)), some (.dat (.int w)), some (.dat (.str row)), some (.dat (.lst (T.map D.str))), some (.dat (.lst (NL.map D.str))), z8, z9, z10, z11, none, none, none, none, none, none, none, none, none]) ⟨_, _, _, rfl⟩ ?_ ?_
    · rintro i d E hi ⟨z9, z10, z11, rfl⟩
      obtain ⟨u, hu, rfl⟩ := map_get hi
      obtain ⟨n0, hn0⟩ := (htm u).mp (List.mem_of_getElem? hu)
      have hul : u.length = w := by rw [← hn0, pce_len]
      refine ev_ ⟨b, k, s, m, u, rfl, rfl, rfl, hW2, by omega, fun h => (h n0 (by rw [hul]; exact hn0)).elim, fun n hn e1 e2 => ?_⟩
      rw [hul] at e1 e2
      refine ev_ ?_
      refine x_join (fun E => E = [some (.dat (.scr ns)), some (.own x4), some (.dat (.int b)), some (.dat (autD s m)), some (.dat (.int w)), some (.dat (.str row)), some (.dat (.lst (T.map D.str))), some (.dat (.lst (NL.map D.str))), z8, some (.dat (.str u)), some (.dat (.int (n : Nat))), z11, none, none, none, none, none, none, none, none, none]) (fun nx' hn' => ?_) ?_
      · refine ev_ ⟨.inl ⟨rfl, flat_strs _⟩, ?_⟩
        rw [anyD_strs]
        refine ev_ite (fun g => ?_) (fun g => ?_)
        · obtain ⟨q, hq, eq⟩ := (h1 u).mp g
          have hnq : n ≤ q := by
            rcases Nat.lt_or_ge q n with z | z
            · exact (e2 q z eq).elim
            · exact z
          refine ⟨n, by omega, by rw [hul, hrow.pc n w (by omega)]; exact e1, fun j hj => ?_, ?_⟩
          · rw [hul, hrow.pc j w (by omega)]; exact e2 j hj
          · refine ev_ ?_
            rw [decide_eq_true rfl]
            refine ev_ ⟨.inl ⟨rfl, flat_strs _⟩, ?_⟩
            rw [anyD_strs, decide_eq_true g]
            exact ev_ (hn' _ rfl)
        · refine ev_ ⟨.inl ⟨rfl, flat_strs _⟩, ?_⟩
          rw [anyD_strs, decide_eq_false g]
          refine ev_ ⟨by omega, ?_⟩
          refine ev_ite (fun z => ?_) (fun z => hn' _ rfl)
          exact (g ((h1 u).mpr ⟨n, by omega, e1⟩)).elim
      · rintro E rfl
        refine ev_ ⟨⟨by omega, by omega⟩, ?_⟩
        refine x_forK (fun i E => ∃ z11, E = [some (.dat (.scr ns)), some (.own x4), some (.dat (.int b)), some (.dat (autD s m)), some (.dat (.int w)), some (.dat (.str row)), some (.dat (.lst (T.map D.str))), some (.dat (.lst (NL.map D.str))), z8, some (.dat (.str u)), some (.dat (.int (n : Nat))), z11, none, none, none, none, none, none, none, none, none]) ⟨_, rfl⟩ ?_ ?_
        · rintro j d E hj ⟨z11, rfl⟩
          obtain ⟨hlt, rfl⟩ := rng_get hj
          have hjw : j < w := by omega
          have hbig : n + j < 2 ^ 1900 := Nat.lt_of_lt_of_le (show n + j < 2 ^ 1000 + 5 by omega) (by decide +kernel)
          refine ev_ ⟨b, n + j, k, s, m, rfl, by congr 1; omega, rfl, hA, hb2, by omega, hbig, ?_⟩
          refine ev_ ⟨by omega, lett m (sa b s m (n + j)), by rw [show (0 : Int) + (j : Int) = ((j : Nat) : Int) by omega, atI_nat, ← e1]; exact pce_get hjw, ?_⟩
          rw [decide_eq_true rfl]
          exact ev_ ⟨_, rfl⟩
        · rintro E ⟨z11, rfl⟩
          exact ⟨_, _, _, rfl⟩
    · rintro E ⟨z9, z10, z11, rfl⟩
      refine ev_ ⟨⟨by omega, by omega⟩, ?_⟩
      refine x_forK (fun i E => ∃ (u : Wo) (x4 : D) (z11 : Option B), isPool x4 ∧ u.length = i ∧ E = [some (.dat (.scr ns)), some (.own x4), some (.dat (.int b)), some (.dat (autD s m)), some (.dat (.int w)), some (.dat (.str row)), some (.dat (.lst (T.map D.str))), some (.dat (.lst (NL.map D.str))), z8, some (.dat (.str u)), z10, z11, none, none, none, none, none, none, none, none, none]) ⟨[], x4, z11, hx4, rfl, rfl⟩ ?_ ?_
      · rintro j d E hj ⟨u, x4, z11, hx4, hul, rfl⟩
        obtain ⟨hlt, rfl⟩ := rng_get hj
        refine ev_ ⟨hx4, ⟨by decide, by decide⟩, fun c x5 hc hx5 => ?_⟩
        have hc1 : c.length = 1 := by
          simp only [List.mem_cons, List.not_mem_nil, or_false] at hc
          rcases hc with rfl | rfl | rfl | rfl <;> rfl
        exact ⟨by omega, u ++ c, x5, _, hx5, by rw [List.length_append, hc1, hul], rfl⟩
      · rintro E ⟨u, x5, z11, hx5, hul, rfl⟩
        rw [rng_len, show ((w : Int)).toNat = w by omega] at hul
        refine x_join (fun E => E = [some (.dat (.scr ns)), some (.own x5), some (.dat (.int b)), some (.dat (autD s m)), some (.dat (.int w)), some (.dat (.str row)), some (.dat (.lst (T.map D.str))), some (.dat (.lst (NL.map D.str))), z8, some (.dat (.str u)), z10, z11, none, none, none, none, none, none, none, none, none]) (fun nx' hn' => ?_) ?_
        · refine ev_ ⟨b, k, s, m, u, rfl, rfl, rfl, hW2, by omega, fun h => ?_, fun n hn e1 e2 => ?_⟩
          · refine ev_ ⟨.inl ⟨rfl, flat_strs _⟩, rfl, rfl, ?_⟩
            rw [anyD_strs, decide_eq_false (fun z => by obtain ⟨n, e⟩ := (htm u).mp z; exact h n (by rw [hul]; exact e))]
            rw [show (!eqD (D.bl true) (D.bl !false)) = false by decide, if_neg Bool.false_ne_true]
            exact ev_ (hn' _ rfl)
          · refine ev_ ⟨.inl ⟨rfl, flat_strs _⟩, rfl, rfl, ?_⟩
            rw [anyD_strs, decide_eq_true ((htm u).mpr ⟨n, by rw [← hul]; exact e1⟩)]
            rw [show (!eqD (D.bl false) (D.bl !true)) = false by decide, if_neg Bool.false_ne_true]
            exact ev_ (hn' _ rfl)
        rintro E rfl
        refine ev_ ⟨b, k, s, m, rfl, hW2, ?_⟩
        refine ev_ ?_
        have hR := rchS_ok hA
        have hRin := sa_in hA hb2 (s := s)
        have hf := rchS_ok hA
        generalize hRe : rchS m s = R at hR hRin ⊢
        have hnd := hR.nd
        have hRl : R.length ≤ 3 := by
          have := nodup_len hR.nd hR.sub
          unfold nms at this
          rw [List.length_map] at this
          omega
        have hgl : ∀ N, (gr b s m R N).length = N := fun N => by unfold gr; rw [List.length_map, List.length_range]
        have hgg : ∀ N i, i < N → (gr b s m R N)[i]? = some (97 + ix R (sa b s m i)) := fun N i hi => by
          unfold gr; rw [List.getElem?_map, List.getElem?_range hi]; rfl
        refine x_while (fun r E => ∃ (N : Nat) (z15 z16 : Option B), 1 ≤ N ∧ N ≤ 1000 ∧ r = 1000 - N ∧ E = [some (.dat (.scr ns)), some (.own x5), some (.dat (.int b)), some (.dat (autD s m)), some (.dat (.int w)), some (.dat (.str row)), some (.dat (.lst (T.map D.str))), some (.dat (.lst (NL.map D.str))), z8, some (.dat (.str u)), z10, z11, some (.dat (.dct false (kdD D.str (rulesL m R)))), some (.dat (.dct false (kdD D.str (lettL m R)))), some (.dat (.str (gr b s m R N))), z15, z16, none, none, none, none]) _ ⟨1, none, none, by omega, by omega, rfl, ?_⟩ ?_
        · have : gr b s m R 1 = [97] := by
            unfold gr
            show [97 + ix R (sa b s m 0)] = _
            rw [sa_0]
            have : ix R s = 0 := ix_get hnd (by rw [← List.head?_eq_getElem?]; exact hR.hd)
            rw [this]
          rw [this]
        rintro r E ⟨N, z15, z16, hN1, hN2, rfl, rfl⟩
        refine ev_ ⟨by rw [hgl]; omega, ?_⟩
        rw [hgl]
        refine ev_ite (fun g => ?_) (fun g => ?_)
        · refine x_forK (fun i E => ∃ (z16 : Option B), E = [some (.dat (.scr ns)), some (.own x5), some (.dat (.int b)), some (.dat (autD s m)), some (.dat (.int w)), some (.dat (.str row)), some (.dat (.lst (T.map D.str))), some (.dat (.lst (NL.map D.str))), z8, some (.dat (.str u)), z10, z11, some (.dat (.dct false (kdD D.str (rulesL m R)))), some (.dat (.dct false (kdD D.str (lettL m R)))), some (.dat (.str (gr b s m R N))), some (.dat (.str (gr b s m R (b * i)))), z16, none, none, none, none]) ⟨z16, by rw [Nat.mul_zero]; rfl⟩ ?_ ?_
          · rintro i d E hi ⟨z16, rfl⟩
            obtain ⟨c, hc, rfl⟩ := map_get hi
            have hiN : i < N := by
              have := (List.getElem?_eq_some_iff.mp hc).1
              rwa [hgl] at this
            rw [hgg N i hiN] at hc
            cases hc
            have hbi : b * i ≤ 3 * i := Nat.mul_le_mul_right i (by omega)
            have hsl := (hA.get (hA.sa hb2 (s := s) i)).2.1
            refine ev_ ⟨rfl, .str ((stps m (sa b s m i)).map fun y => 97 + ix R y), by rw [lookD_kdD, lk_rules hnd (hRin i)]; rfl, ?_⟩
            refine ev_ ⟨by rw [hgl, List.length_map, hsl]; omega, some (.dat (.str [97 + ix R (sa b s m i)])), ?_⟩
            rw [← gr_step hA hb2 hz i]
          · rintro E ⟨z16, rfl⟩
            rw [List.length_map, hgl]
            have hbN : b * N ≤ 3 * N := Nat.mul_le_mul_right N (by omega)
            have hbN2 : 2 * N ≤ b * N := Nat.mul_le_mul_right N hb2
            refine ev_ ⟨by rw [hgl]; omega, by rw [hgl]; omega, ?_⟩
            rw [hgl, hgl]
            rw [decide_eq_false (show ¬ ((b * N : Nat) : Int) ≤ (N : Int) by omega), if_neg Bool.false_ne_true]
            exact ev_ ⟨1000 - b * N, by omega, b * N, _, _, by omega, by omega, rfl, rfl⟩
        · refine ev_ ⟨by rw [hgl]; omega, ?_⟩
          have hcut : cut (gr b s m R N) none (some 200) = gr b s m R 200 := by
            have := front_eq (gr b s m R N) 200
            rw [show ((0 : Int) + ((200 : Nat) : Int)) = 200 from rfl] at this
            rw [this]
            unfold gr
            rw [← List.map_take, List.take_range, Nat.min_eq_left (by omega)]
          have hcutr : cut row none (some 200) = (List.range 200).map fun i => lett m (sa b s m i) := by
            have := front_eq row 200
            rw [show ((0 : Int) + ((200 : Nat) : Int)) = 200 from rfl] at this
            rw [this]
            apply List.ext_getElem?
            intro i
            rw [List.getElem?_take]
            split
            · rename_i hi
              rw [hrow.get i (by omega), List.getElem?_map, List.getElem?_range hi]; rfl
            · rename_i hi
              rw [List.getElem?_eq_none (by rw [List.length_map, List.length_range]; omega)]
          rw [hcut]
          refine x_forK (fun i E => ∃ (z16 : Option B), E = [some (.dat (.scr ns)), some (.own x5), some (.dat (.int b)), some (.dat (autD s m)), some (.dat (.int w)), some (.dat (.str row)), some (.dat (.lst (T.map D.str))), some (.dat (.lst (NL.map D.str))), z8, some (.dat (.str u)), z10, z11, some (.dat (.dct false (kdD D.str (rulesL m R)))), some (.dat (.dct false (kdD D.str (lettL m R)))), some (.dat (.str (gr b s m R N))), z15, z16, some (.dat (.str ((List.range i).map fun i => lett m (sa b s m i)))), none, none, none]) ⟨z16, rfl⟩ ?_ ?_
          · rintro i d E hi ⟨z16, rfl⟩
            obtain ⟨c, hc, rfl⟩ := map_get hi
            have hiN : i < 200 := by
              have := (List.getElem?_eq_some_iff.mp hc).1
              rwa [hgl] at this
            rw [hgg 200 i hiN] at hc
            cases hc
            refine ev_ ⟨rfl, .str [lett m (sa b s m i)], by rw [lookD_kdD, lk_lett hnd (hRin i)]; rfl, ?_⟩
            refine ev_ ⟨by rw [List.length_map, List.length_range]; show i + 1 ≤ _; omega, some (.dat (.str [97 + ix R (sa b s m i)])), ?_⟩
            rw [List.range_succ, List.map_append]; rfl
          · rintro E ⟨z16, rfl⟩
            rw [List.length_map, hgl]
            refine ev_ ⟨by omega, ?_⟩
            rw [hcutr]
            rw [show (decide (((List.range 200).map fun i => lett m (sa b s m i)) = ((List.range 200).map fun i => lett m (sa b s m i)))) = true from decide_eq_true rfl]
            refine ev_ ⟨(rulesL m R).map (·.1), kdD_keys _ _, (lettL m R).map (·.1), kdD_keys _ _, ?_⟩
            have hke : (lettL m R).map (·.1) = (rulesL m R).map (·.1) := by
              unfold lettL rulesL; rw [List.map_map, List.map_map]; rfl
            have hkok : ∀ x ∈ srtW ((rulesL m R).map (·.1)), okS x := fun x hx => by
              have hx := srtW_mem.mp hx
              unfold rulesL at hx
              rw [List.map_map] at hx
              obtain ⟨y, hy, rfl⟩ := List.mem_map.mp hx
              have := ix_lt hnd hy
              intro c hc
              have hc : c = 97 + ix R y := List.mem_singleton.mp hc
              omega
            rw [hke, sort_strs]
            refine ⟨(okN_strs hkok).ok, (okN_strs hkok).ok, ?_⟩
            rw [eqD_strs, decide_eq_true rfl]
            refine ev_ ⟨b, k, s, m, rfl, hA, by omega, by omega, ?_⟩
            rw [hRe]
            refine ev_ ?_
            rw [List.length_map]
            refine ⟨⟨by omega, by omega⟩, ?_⟩
            have hokN : ∀ x ∈ nms m, okS x := fun x hx => by
              obtain ⟨c, j, c1, c2, j1, j2, e⟩ := hD.ab x hx
              rw [e]
              intro y hy
              simp only [List.mem_cons, List.not_mem_nil, or_false] at hy
              rcases hy with h | h <;> omega
            have hokR : okD (.lst (R.map D.str)) = true := (okN_strs fun x hx => hokN x (hR.sub x hx)).ok
            refine x_forK (fun i E => ∃ (z11 z16 z19 z20 : Option B), E = [some (.dat (.scr ns)), some (.own x5), some (.dat (.int b)), some (.dat (autD s m)), some (.dat (.int w)), some (.dat (.str row)), some (.dat (.lst (T.map D.str))), some (.dat (.lst (NL.map D.str))), z8, some (.dat (.str u)), z10, z11, some (.dat (.dct false (kdD D.str (rulesL m R)))), some (.dat (.dct false (kdD D.str (lettL m R)))), some (.dat (.str (gr b s m R N))), z15, z16, some (.dat (.str ((List.range 200).map fun i => lett m (sa b s m i)))), some (.own (.lst (R.map D.str))), z19, z20]) ⟨z11, z16, none, none, rfl⟩ ?_ ?_
            · rintro i d E hi ⟨z11, z16, z19, z20, rfl⟩
              obtain ⟨hlt, rfl⟩ := rng_get hi
              have hiR : i < R.length := by omega
              have hRi : R[i]? = some R[i] := List.getElem?_eq_getElem hiR
              have hxR : R[i] ∈ R := List.getElem_mem hiR
              have hxi := ix_get hnd hRi
              generalize R[i] = x at hRi hxR hxi
              obtain ⟨g1, g2, g3⟩ := hA.get (hR.sub x hxR)
              have hab := abcL_get i (by omega)
              refine ev_ ⟨x, by rw [show (0 : Int) + (i : Int) = ((i : Nat) : Int) by omega, atI_nat]; exact hRi, rfl, _, lk_enc g1, ?_⟩
              rw [enc_st]
              refine ev_ ⟨by decide, 97 + i, by rw [show (0 : Int) + (i : Int) = ((i : Nat) : Int) by omega, atI_nat]; exact hab, rfl, .str [lett m x], by rw [lookD_kdD, ← hxi, lk_lett hnd hxR]; rfl, ?_⟩
              refine ev_ ?_
              have hokl : okD (.str [lett m x]) = true := (okN_str (n := 1) (fun c hc => by
                rw [List.mem_singleton.mp hc]
                rcases hlet x (hR.sub x hxR) with e | e | e <;> rw [e] <;> decide)).ok
              refine ⟨hokl, hokl, ?_⟩
              rw [eqD_str, decide_eq_true rfl, show (!true) = false from rfl, if_neg Bool.false_ne_true]
              refine ev_ ⟨⟨by omega, by omega⟩, ?_⟩
              refine x_forK (fun j E => ∃ (z20 : Option B), E = [some (.dat (.scr ns)), some (.own x5), some (.dat (.int b)), some (.dat (autD s m)), some (.dat (.int w)), some (.dat (.str row)), some (.dat (.lst (T.map D.str))), some (.dat (.lst (NL.map D.str))), z8, some (.dat (.str u)), z10, some (.dat (.int (0 + (i : Int)))), some (.dat (.dct false (kdD D.str (rulesL m R)))), some (.dat (.dct false (kdD D.str (lettL m R)))), some (.dat (.str (gr b s m R N))), z15, some (.dat (.str [lett m x])), some (.dat (.str ((List.range 200).map fun i => lett m (sa b s m i)))), some (.own (.lst (R.map D.str))), some (.dat (.lst ((stps m x).map D.str))), z20]) ⟨z20, rfl⟩ ?_ ?_
              · rintro j d E hj ⟨z20, rfl⟩
                obtain ⟨hlt, rfl⟩ := rng_get hj
                have hjb : j < b := by omega
                obtain ⟨n1, n2⟩ := hA.nxt (hR.sub x hxR) hjb
                have hyR := hR.cl x hxR _ (List.mem_of_getElem? n1)
                generalize nxt m x j = y at n1 n2 hyR
                have hyi := ix_lt hnd hyR
                obtain ⟨t, ht, et⟩ := List.getElem_of_mem hyR
                have hfy := fi_get hnd (show R[t]? = some y by rw [List.getElem?_eq_getElem ht, et])
                have hty := ix_get hnd (show R[t]? = some y by rw [List.getElem?_eq_getElem ht, et])
                refine ev_ ⟨by decide, 97 + i, by rw [show (0 : Int) + (i : Int) = ((i : Nat) : Int) by omega, atI_nat]; exact hab, rfl, .str ((stps m x).map fun y => 97 + ix R y), by rw [lookD_kdD, ← hxi, lk_rules hnd hxR]; rfl, ?_⟩
                refine ev_ ⟨by rw [List.length_map]; omega, 97 + ix R y, by rw [show (0 : Int) + (j : Int) = ((j : Nat) : Int) by omega, atI_nat, List.getElem?_map, n1]; rfl, y, by rw [show (0 : Int) + (j : Int) = ((j : Nat) : Int) by omega, atI_nat]; exact n1, hokR, (okN_str (n := 1) (hokN y n2)).ok, t, by rw [idxOf_str]; exact hfy, by decide, 97 + t, by rw [atI_nat]; exact abcL_get t (by omega), ?_⟩
                rw [hty, decide_eq_true rfl]
                exact ev_ ⟨_, rfl⟩
              · rintro E ⟨z20, rfl⟩
                exact ⟨_, _, _, _, rfl⟩
            · rintro E ⟨z11, z16, z19, z20, rfl⟩
              exact ev_ kk
end PW.K57

set_option Elab.async false
set_option linter.all false
set_option autoImplicit false
set_option maxRecDepth 100000
set_option maxHeartbeats 4000000
namespace PW.K57
open PySem PySem.Spec PyProof.Rows L2 PW
/-! ### the text -/
def top (i : Nat) : Stmt := PySem.Challenge.pw_growth_k57_whole_pieces_of_automatic_row.main.body.getD i (.Pass ⟨0, 0, 0, 0⟩)
abbrev s_digits_of : Stmt := top 1
abbrev s_letter_at : Stmt := top 2
abbrev s_reached : Stmt := top 3
abbrev s_states_at : Stmt := top 5
abbrev s_window_behind : Stmt := top 6
abbrev s_windows : Stmt := top 7
abbrev s_word_of : Stmt := top 8
abbrev s_pieces : Stmt := top 9
abbrev s_first_piece : Stmt := top 10
abbrev s_as_rules : Stmt := top 11
abbrev s__law_mixed : Stmt := top 13
abbrev s__law_rest : Stmt := top 14
abbrev s__law_pool : Stmt := top 15
abbrev s__law_next : Stmt := top 16
abbrev s__law_draw : Stmt := top 17
abbrev s__law_pick : Stmt := top 18
abbrev s__law_automaton : Stmt := top 19
abbrev s__law_digits : Stmt := top 20
abbrev s__law_letter : Stmt := top 21
abbrev s__law_row : Stmt := top 22
abbrev s__law_reached : Stmt := top 23
abbrev s_law : Stmt := top 24
structure Tx (K : PySem.W.Frag) (mg : Str → Option Value) : Prop where
  z_enumerate : mg "enumerate" = none
  z_int : mg "int" = none
  z_len : mg "len" = none
  z_min : mg "min" = none
  z_range : mg "range" = none
  z_set : mg "set" = none
  z_sorted : mg "sorted" = none
  z_str : mg "str" = none
  z_tuple : mg "tuple" = none
  d_digits_of : Df K mg "digits_of" s_digits_of ["b", "n"]
  d_letter_at : Df K mg "letter_at" s_letter_at ["b", "automaton", "n"]
  d_reached : Df K mg "reached" s_reached ["automaton"]
  d_states_at : Df K mg "states_at" s_states_at ["b", "automaton", "n", "many"]
  d_window_behind : Df K mg "window_behind" s_window_behind ["b", "automaton", "window", "digit"]
  d_windows : Df K mg "windows" s_windows ["b", "automaton", "many"]
  d_word_of : Df K mg "word_of" s_word_of ["automaton", "window"]
  d_pieces : Df K mg "pieces" s_pieces ["b", "automaton", "many"]
  d_first_piece : Df K mg "first_piece" s_first_piece ["b", "automaton", "word"]
  d_as_rules : Df K mg "as_rules" s_as_rules ["automaton"]
  d__law_mixed : Df K mg "_law_mixed" s__law_mixed ["number", "place"]
  d__law_rest : Df K mg "_law_rest" s__law_rest ["script", "place", "fills"]
  d__law_pool : Df K mg "_law_pool" s__law_pool ["script"]
  d__law_next : Df K mg "_law_next" s__law_next ["pool"]
  d__law_draw : Df K mg "_law_draw" s__law_draw ["pool", "limit"]
  d__law_pick : Df K mg "_law_pick" s__law_pick ["pool", "options"]
  d__law_automaton : Df K mg "_law_automaton" s__law_automaton ["pool", "b", "many"]
  d__law_digits : Df K mg "_law_digits" s__law_digits ["b", "n"]
  d__law_letter : Df K mg "_law_letter" s__law_letter ["b", "automaton", "n"]
  d__law_row : Df K mg "_law_row" s__law_row ["b", "automaton", "n"]
  d__law_reached : Df K mg "_law_reached" s__law_reached ["automaton"]
  d_law : Df K mg "law" s_law ["script"]
section
variable {P : Program} {w : World} {K : PySem.W.Frag} {mg : Str → Option Value} {base : Heap}
theorem sc_digits_of : FnScope ["b", "n", "found"] ["b", "n"] (defScope s_digits_of) := ⟨rfl, rfl, rfl, by decide +kernel, rfl, by decide +kernel, by decide +kernel⟩
theorem dr_digits_of {f : Addr} (T : Tx K mg) : DerOk P w K mg base ["b", "n", "found"] "digits_of" s_digits_of f 0 w_digits_of := fun cdv A outer s H E hr => (bd_cons (sd_set (i := 2) sc_digits_of.nd rfl (by first | exact Or.inl rfl | exact Or.inr rfl) (ed_lst ad_n))
  (bd_cons (sd_while PassesOwn.never (td_tru (od_v 1)) (bd_cons (sd_expr (ed_append (pv 2) (ed_op op_mod k_mod (od_v 1) (od_v 0))))
  (bd_one (sd_set (i := 1) sc_digits_of.nd rfl (by first | exact Or.inl rfl | exact Or.inr rfl) (ed_op op_fdA k_fdiv (od_v 1) (od_v 0))))))
  (bd_one (sd_ret (ed_rev (od_v 2))))))
theorem c_digits_of (T : Tx K mg) : CF P w K mg base 1 "digits_of" (fs2 f_digits_of) := cf_of T.d_digits_of fun f fd F => okF2 F sc_digits_of (by decide) (dr_digits_of T) law_digits_of
theorem sc_letter_at : FnScope ["b", "automaton", "n", "here", "states", "digit"] ["b", "automaton", "n"] (defScope s_letter_at) := ⟨rfl, rfl, rfl, by decide +kernel, rfl, by decide +kernel, by decide +kernel⟩
theorem dr_letter_at {f : Addr} (T : Tx K mg) : DerOk P w K mg base ["b", "automaton", "n", "here", "states", "digit"] "letter_at" s_letter_at f 1 w_letter_at := fun cdv A outer s H E hr => (bd_cons (sd_asg (ed_v 1) (gd_t rfl (gsd_c (gd_n (i := 3) sc_letter_at.nd rfl (by first | exact Or.inl rfl | exact Or.inr rfl)) (gsd_c (gd_n (i := 4) sc_letter_at.nd rfl (by first | exact Or.inl rfl | exact Or.inr rfl)) gsd_n))))
  (bd_cons (sd_for PassesOwn.never rfl (id_s (ed_f (c_digits_of T) (hr.mono (by decide)) rfl (ad_c (ed_v 0) (ad_c (ed_v 2) ad_n)))) (gd_n (i := 5) sc_letter_at.nd rfl (by first | exact Or.inl rfl | exact Or.inr rfl)) (bd_one (sd_set (i := 3) sc_letter_at.nd rfl (by first | exact Or.inl rfl | exact Or.inr rfl) (ed_ix (rm1 hr) (od_e (ed_ix (rm1 hr) (od_e (ed_ix (rm1 hr) (od_v 4) (od_v 3) (by intro o i; rfl))) (od_e ed_int) (by intro o i; rfl))) (od_v 5) (by intro o i; rfl)))))
  (bd_one (sd_ret (ed_ix (rm1 hr) (od_e (ed_ix (rm1 hr) (od_v 4) (od_v 3) (by intro o i; rfl))) (od_e ed_int) (by intro o i; rfl))))))
theorem c_letter_at (T : Tx K mg) : CF P w K mg base 2 "letter_at" (fs3 f_letter_at) := cf_of T.d_letter_at fun f fd F => okF3 F sc_letter_at (by decide) (dr_letter_at T) law_letter_at
theorem sc_reached : FnScope ["automaton", "start", "states", "found", "at", "name"] ["automaton"] (defScope s_reached) := ⟨rfl, rfl, rfl, by decide +kernel, rfl, by decide +kernel, by decide +kernel⟩
theorem dr_reached {f : Addr} (T : Tx K mg) : DerOk P w K mg base ["automaton", "start", "states", "found", "at", "name"] "reached" s_reached f 0 w_reached := fun cdv A outer s H E hr => (bd_cons (sd_asg (ed_v 0) (gd_t rfl (gsd_c (gd_n (i := 1) sc_reached.nd rfl (by first | exact Or.inl rfl | exact Or.inr rfl)) (gsd_c (gd_n (i := 2) sc_reached.nd rfl (by first | exact Or.inl rfl | exact Or.inr rfl)) gsd_n))))
  (bd_cons (sd_set (i := 3) sc_reached.nd rfl (by first | exact Or.inl rfl | exact Or.inr rfl) (ed_lst (ad_c (ed_v 1) ad_n)))
  (bd_cons (sd_set (i := 4) sc_reached.nd rfl (by first | exact Or.inl rfl | exact Or.inr rfl) ed_int)
  (bd_cons (sd_while PassesOwn.never (td_cmp (op_ltG (rm64 hr)) k_lt (nomark _) (od_v 4) (od_e (ed_call1 call_lenAll k_len rfl T.z_len (by decide +kernel) (od_v 3)))) (bd_cons (sd_for PassesOwn.never rfl (id_s (ed_ix (rm1 hr) (od_e (ed_ix (rm1 hr) (od_v 2) (od_e (ed_ix (rm1 hr) (od_v 3) (od_v 4) (by intro o i; rfl))) (by intro o i; rfl))) (od_e ed_int) (by intro o i; rfl))) (gd_n (i := 5) sc_reached.nd rfl (by first | exact Or.inl rfl | exact Or.inr rfl)) (bd_one (sd_if (td_cmp (op_ninAll (rm65 hr)) k_nin (by rfl) (od_v 5) (od_v 3)) (bd_one (sd_expr (ed_append (pv 3) (ed_v 5)))) bd_nil)))
  (bd_one (sd_set (i := 4) sc_reached.nd rfl (by first | exact Or.inl rfl | exact Or.inr rfl) (ed_op op_addAll k_add (od_v 4) (od_e ed_int))))))
  (bd_one (sd_ret (ed_m 3)))))))
theorem c_reached (T : Tx K mg) : CF P w K mg base 1 "reached" (fs1 f_reached) := cf_of T.d_reached fun f fd F => okF1 F sc_reached (by decide) (dr_reached T) law_reached
theorem sc_states_at : FnScope ["b", "automaton", "n", "many", "start", "states", "found", "place", "here", "digit"] ["b", "automaton", "n", "many"] (defScope s_states_at) := ⟨rfl, rfl, rfl, by decide +kernel, rfl, by decide +kernel, by decide +kernel⟩
theorem dr_states_at {f : Addr} (T : Tx K mg) : DerOk P w K mg base ["b", "automaton", "n", "many", "start", "states", "found", "place", "here", "digit"] "states_at" s_states_at f 1 w_states_at := fun cdv A outer s H E hr => (bd_cons (sd_asg (ed_v 1) (gd_t rfl (gsd_c (gd_n (i := 4) sc_states_at.nd rfl (by first | exact Or.inl rfl | exact Or.inr rfl)) (gsd_c (gd_n (i := 5) sc_states_at.nd rfl (by first | exact Or.inl rfl | exact Or.inr rfl)) gsd_n))))
  (bd_cons (sd_set (i := 6) sc_states_at.nd rfl (by first | exact Or.inl rfl | exact Or.inr rfl) (ed_lst ad_n))
  (bd_cons (sd_for PassesOwn.never rfl (id_r2 rfl T.z_range (ed_v 2) (ed_op op_addAll k_add (od_v 2) (od_v 3))) (gd_n (i := 7) sc_states_at.nd rfl (by first | exact Or.inl rfl | exact Or.inr rfl)) (bd_cons (sd_set (i := 8) sc_states_at.nd rfl (by first | exact Or.inl rfl | exact Or.inr rfl) (ed_v 4))
  (bd_cons (sd_for PassesOwn.never rfl (id_s (ed_f (c_digits_of T) (hr.mono (by decide)) rfl (ad_c (ed_v 0) (ad_c (ed_v 7) ad_n)))) (gd_n (i := 9) sc_states_at.nd rfl (by first | exact Or.inl rfl | exact Or.inr rfl)) (bd_one (sd_set (i := 8) sc_states_at.nd rfl (by first | exact Or.inl rfl | exact Or.inr rfl) (ed_ix (rm1 hr) (od_e (ed_ix (rm1 hr) (od_e (ed_ix (rm1 hr) (od_v 5) (od_v 8) (by intro o i; rfl))) (od_e ed_int) (by intro o i; rfl))) (od_v 9) (by intro o i; rfl)))))
  (bd_one (sd_expr (ed_append (pv 6) (ed_v 8)))))))
  (bd_one (sd_ret (ed_callT1 call_tuple_of k_tuple rfl T.z_tuple (by decide +kernel) (od_v 6)))))))
theorem c_states_at (T : Tx K mg) : CF P w K mg base 2 "states_at" (fs4 f_states_at) := cf_of T.d_states_at fun f fd F => okF4 F sc_states_at (by decide) (dr_states_at T) law_states_at
theorem sc_window_behind : FnScope ["b", "automaton", "window", "digit", "states", "at"] ["b", "automaton", "window", "digit"] (defScope s_window_behind) := ⟨rfl, rfl, rfl, by decide +kernel, rfl, by decide +kernel, by decide +kernel⟩
theorem dr_window_behind {f : Addr} (T : Tx K mg) : DerOk P w K mg base ["b", "automaton", "window", "digit", "states", "at"] "window_behind" s_window_behind f 0 w_window_behind := fun cdv A outer s H E hr => (bd_cons (sd_set (i := 4) sc_window_behind.nd rfl (by first | exact Or.inl rfl | exact Or.inr rfl) (ed_ix (rm1 hr) (od_v 1) (od_e ed_int) (by intro o i; rfl)))
  (bd_one (sd_ret (ed_callT1 call_tuple_of k_tuple rfl T.z_tuple (by decide +kernel) (od_e (ed_lc (vs := [5]) rfl sc_window_behind.nd rfl (id_r1 rfl T.z_range (ed_call1 call_lenAll k_len rfl T.z_len (by decide +kernel) (od_v 2))) (own := [("at", 5)]) (blkOk_by (own := [("at", 5)]) (N := ["b", "automaton", "window", "digit", "states", "at"]) (sc := defScope s_window_behind) (by decide +kernel)) (fun _ _ _ _ _ => (gvd_n (i := 5) sc_window_behind.nd (by decide) rfl (by first | exact Or.inl rfl | exact Or.inr rfl))) (fun _ _ _ _ _ => tsd_n) (fun _ _ _ _ _ => (ed_ix (rm1 hr) (od_e (ed_ix (rm1 hr) (od_e (ed_ix (rm1 hr) (od_v 4) (od_e (ed_ix (rm1 hr) (od_v 2) (od_e (ed_op op_fdA k_fdiv (od_e (ed_op op_addAll k_add (od_v 3) (od_v 5))) (od_v 0))) (by intro o i; rfl))) (by intro o i; rfl))) (od_e ed_int) (by intro o i; rfl))) (od_e (ed_op op_mod k_mod (od_e (ed_op op_addAll k_add (od_v 3) (od_v 5))) (od_v 0))) (by intro o i; rfl)))))))))
theorem c_window_behind (T : Tx K mg) : CF P w K mg base 1 "window_behind" (fs4 f_window_behind) := cf_of T.d_window_behind fun f fd F => okF4 F sc_window_behind (by decide) (dr_window_behind T) law_window_behind
theorem sc_windows : FnScope ["b", "automaton", "many", "first", "found", "layer", "further", "window", "digit", "there"] ["b", "automaton", "many"] (defScope s_windows) := ⟨rfl, rfl, rfl, by decide +kernel, rfl, by decide +kernel, by decide +kernel⟩
theorem dr_windows {f : Addr} (T : Tx K mg) : DerOk P w K mg base ["b", "automaton", "many", "first", "found", "layer", "further", "window", "digit", "there"] "windows" s_windows f 2 w_windows := fun cdv A outer s H E hr => (bd_cons (sd_set (i := 3) sc_windows.nd rfl (by first | exact Or.inl rfl | exact Or.inr rfl) (ed_f (c_states_at T) (hr.mono (by decide)) rfl (ad_c (ed_v 0) (ad_c (ed_v 1) (ad_c ed_int (ad_c (ed_v 2) ad_n))))))
  (bd_cons (sd_set (i := 4) sc_windows.nd rfl (by first | exact Or.inl rfl | exact Or.inr rfl) (ed_dispT (rm1 hr) (psd_c (ed_v 3) ed_int psd_n) rfl rfl (by intro h; cases h) (by decide)))
  (bd_cons (sd_set (i := 5) sc_windows.nd rfl (by first | exact Or.inl rfl | exact Or.inr rfl) (ed_lst (ad_c (ed_v 3) ad_n)))
  (bd_cons (sd_while PassesOwn.never (td_tru (od_v 5)) (bd_cons (sd_set (i := 6) sc_windows.nd rfl (by first | exact Or.inl rfl | exact Or.inr rfl) (ed_lst ad_n))
  (bd_cons (sd_for PassesOwn.never rfl (id_s (ed_v 5)) (gd_n (i := 7) sc_windows.nd rfl (by first | exact Or.inl rfl | exact Or.inr rfl)) (bd_one (sd_for PassesOwn.never rfl (id_r1 rfl T.z_range (ed_v 0)) (gd_n (i := 8) sc_windows.nd rfl (by first | exact Or.inl rfl | exact Or.inr rfl)) (bd_cons (sd_set (i := 9) sc_windows.nd rfl (by first | exact Or.inl rfl | exact Or.inr rfl) (ed_f (c_window_behind T) (hr.mono (by decide)) rfl (ad_c (ed_v 0) (ad_c (ed_v 1) (ad_c (ed_v 7) (ad_c (ed_v 8) ad_n))))))
  (bd_one (sd_if (td_cmp (op_ninAll (rm65 hr)) k_nin (by rfl) (od_v 9) (od_v 4)) (bd_cons (sd_sub (rm1 hr) (pv 4) (ed_v 9) (ed_op op_addAll k_add (od_e (ed_op op_mulG k_mulG (od_v 0) (od_e (ed_ix (rm1 hr) (od_v 4) (od_v 7) (by intro o i; rfl))))) (od_v 8)))
  (bd_one (sd_expr (ed_append (pv 6) (ed_v 9))))) bd_nil))))))
  (bd_one (sd_set (i := 5) sc_windows.nd rfl (by first | exact Or.inl rfl | exact Or.inr rfl) (ed_m 6))))))
  (bd_one (sd_ret (ed_m 4)))))))
theorem c_windows (T : Tx K mg) : CF P w K mg base 3 "windows" (fs3 f_windows) := cf_of T.d_windows fun f fd F => okF3 F sc_windows (by decide) (dr_windows T) law_windows
theorem sc_word_of : FnScope ["automaton", "window", "name"] ["automaton", "window"] (defScope s_word_of) := ⟨rfl, rfl, rfl, by decide +kernel, rfl, by decide +kernel, by decide +kernel⟩
theorem dr_word_of {f : Addr} (T : Tx K mg) : DerOk P w K mg base ["automaton", "window", "name"] "word_of" s_word_of f 0 w_word_of := fun cdv A outer s H E hr => (bd_one (sd_ret (ed_mt1 PySem.F.plainAttrs_str PySem.F.slot_str_join PySem.F.type_str_join mt_join k_join (od_e (ed_str (l := []) (by decide +kernel))) (od_e (ed_lc (vs := [2]) rfl sc_word_of.nd rfl (id_s (ed_v 1)) (own := [("name", 2)]) (blkOk_by (own := [("name", 2)]) (N := ["automaton", "window", "name"]) (sc := defScope s_word_of) (by decide +kernel)) (fun _ _ _ _ _ => (gvd_n (i := 2) sc_word_of.nd (by decide) rfl (by first | exact Or.inl rfl | exact Or.inr rfl))) (fun _ _ _ _ _ => tsd_n) (fun _ _ _ _ _ => (ed_ix (rm1 hr) (od_e (ed_ix (rm1 hr) (od_e (ed_ix (rm1 hr) (od_v 0) (od_e ed_int) (by intro o i; rfl))) (od_v 2) (by intro o i; rfl))) (od_e ed_int) (by intro o i; rfl))))))))
theorem c_word_of (T : Tx K mg) : CF P w K mg base 1 "word_of" (fs2 f_word_of) := cf_of T.d_word_of fun f fd F => okF2 F sc_word_of (by decide) (dr_word_of T) law_word_of
theorem sc_pieces : FnScope ["b", "automaton", "many", "window"] ["b", "automaton", "many"] (defScope s_pieces) := ⟨rfl, rfl, rfl, by decide +kernel, rfl, by decide +kernel, by decide +kernel⟩
theorem dr_pieces {f : Addr} (T : Tx K mg) : DerOk P w K mg base ["b", "automaton", "many", "window"] "pieces" s_pieces f 3 w_pieces := fun cdv A outer s H E hr => (bd_one (sd_ret (ed_sortSet rfl (rm70 hr) rfl T.z_sorted (by decide +kernel) rfl T.z_set (by decide +kernel) (od_e (ed_lc (vs := [3]) rfl sc_pieces.nd rfl (id_s (ed_f (c_windows T) (hr.mono (by decide)) rfl (ad_c (ed_v 0) (ad_c (ed_v 1) (ad_c (ed_v 2) ad_n))))) (own := [("window", 3)]) (blkOk_by (own := [("window", 3)]) (N := ["b", "automaton", "many", "window"]) (sc := defScope s_pieces) (by decide +kernel)) (fun _ _ _ _ _ => (gvd_n (i := 3) sc_pieces.nd (by decide) rfl (by first | exact Or.inl rfl | exact Or.inr rfl))) (fun _ _ _ _ _ => tsd_n) (fun _ _ _ _ _ => (ed_f (c_word_of T) (hr.mono (by decide)) rfl (ad_c (ed_v 1) (ad_c (ed_v 3) ad_n)))))))))
theorem c_pieces (T : Tx K mg) : CF P w K mg base 4 "pieces" (fs3 f_pieces) := cf_of T.d_pieces fun f fd F => okF3 F sc_pieces (by decide) (dr_pieces T) law_pieces
theorem sc_first_piece : FnScope ["b", "automaton", "word", "told", "places", "window"] ["b", "automaton", "word"] (defScope s_first_piece) := ⟨rfl, rfl, rfl, by decide +kernel, rfl, by decide +kernel, by decide +kernel⟩
theorem dr_first_piece {f : Addr} (T : Tx K mg) : DerOk P w K mg base ["b", "automaton", "word", "told", "places", "window"] "first_piece" s_first_piece f 3 w_first_piece := fun cdv A outer s H E hr => (bd_cons (sd_set (i := 3) sc_first_piece.nd rfl (by first | exact Or.inl rfl | exact Or.inr rfl) (ed_f (c_windows T) (hr.mono (by decide)) rfl (ad_c (ed_v 0) (ad_c (ed_v 1) (ad_c (ed_call1 call_lenAll k_len rfl T.z_len (by decide +kernel) (od_v 2)) ad_n)))))
  (bd_cons (by first | exact sd_setLc (i := 4) (vs := [5]) rfl sc_first_piece.nd rfl rfl rfl (sw_true rfl rfl rfl (by decide +kernel)) (id_s (ed_v 3)) (own := [("window", 5)]) (blkOk_by (own := [("window", 5)]) (N := ["b", "automaton", "word", "told", "places", "window"]) (sc := defScope s_first_piece) (by decide +kernel)) (fun _ _ _ _ _ => (gvd_n (i := 5) sc_first_piece.nd (by decide) rfl (by first | exact Or.inl rfl | exact Or.inr rfl))) (fun _ _ _ _ _ => (tsd_1 (td_cmp (op_eqG (rm64 hr)) k_eq (nomark _) (od_e (ed_f (c_word_of T) (hr.mono (by decide)) rfl (ad_c (ed_v 1) (ad_c (ed_v 5) ad_n)))) (od_v 2)))) (fun _ _ _ _ _ => (ed_ix (rm1 hr) (od_v 3) (od_v 5) (by intro o i; rfl))) | exact sd_set (i := 4) sc_first_piece.nd rfl (by first | exact Or.inl rfl | exact Or.inr rfl) (ed_lc (vs := [5]) rfl sc_first_piece.nd rfl (id_s (ed_v 3)) (own := [("window", 5)]) (blkOk_by (own := [("window", 5)]) (N := ["b", "automaton", "word", "told", "places", "window"]) (sc := defScope s_first_piece) (by decide +kernel)) (fun _ _ _ _ _ => (gvd_n (i := 5) sc_first_piece.nd (by decide) rfl (by first | exact Or.inl rfl | exact Or.inr rfl))) (fun _ _ _ _ _ => (tsd_1 (td_cmp (op_eqG (rm64 hr)) k_eq (nomark _) (od_e (ed_f (c_word_of T) (hr.mono (by decide)) rfl (ad_c (ed_v 1) (ad_c (ed_v 5) ad_n)))) (od_v 2)))) (fun _ _ _ _ _ => (ed_ix (rm1 hr) (od_v 3) (od_v 5) (by intro o i; rfl)))))
  (bd_one (sd_ret (ed_if (td_tru (od_v 4)) (ed_call1 (cr_min rfl) k_min rfl T.z_min (by decide +kernel) (od_v 4)) ed_non)))))
theorem c_first_piece (T : Tx K mg) : CF P w K mg base 4 "first_piece" (fs3 f_first_piece) := cf_of T.d_first_piece fun f fd F => okF3 F sc_first_piece (by decide) (dr_first_piece T) law_first_piece
theorem sc_as_rules : FnScope ["automaton", "states", "order", "letters", "rules", "at", "name", "end"] ["automaton"] (defScope s_as_rules) := ⟨rfl, rfl, rfl, by decide +kernel, rfl, by decide +kernel, by decide +kernel⟩
theorem dr_as_rules {f : Addr} (T : Tx K mg) : DerOk P w K mg base ["automaton", "states", "order", "letters", "rules", "at", "name", "end"] "as_rules" s_as_rules f 1 w_as_rules := fun cdv A outer s H E hr => (bd_cons (sd_set (i := 1) sc_as_rules.nd rfl (by first | exact Or.inl rfl | exact Or.inr rfl) (ed_ix (rm1 hr) (od_v 0) (od_e ed_int) (by intro o i; rfl)))
  (bd_cons (sd_set (i := 2) sc_as_rules.nd rfl (by first | exact Or.inl rfl | exact Or.inr rfl) (ed_f (c_reached T) (hr.mono (by decide)) rfl (ad_c (ed_v 0) ad_n)))
  (bd_cons (by first | exact sd_setDc (i := 3) (vs := [5, 6]) rfl sc_as_rules.nd rfl rfl rfl (sw_trueD rfl rfl rfl (by decide +kernel)) (id_enum rfl T.z_enumerate (ed_v 2)) (own := [("at", 5), ("name", 6)]) (blkOk_by (own := [("at", 5), ("name", 6)]) (N := ["automaton", "states", "order", "letters", "rules", "at", "name", "end"]) (sc := defScope s_as_rules) (by decide +kernel)) (fun _ _ _ _ _ => (gvd_t rfl (gvsd_c (gvd_n (i := 5) sc_as_rules.nd (by decide) rfl (by first | exact Or.inl rfl | exact Or.inr rfl)) (gvsd_c (gvd_n (i := 6) sc_as_rules.nd (by decide) rfl (by first | exact Or.inl rfl | exact Or.inr rfl)) gvsd_n)))) (fun _ _ _ _ _ => tsd_n) (fun _ _ _ _ _ => (ed_v 6)) (fun _ _ _ _ _ => (ed_ix (rm1 hr) (od_e (ed_str (l := [97, 98, 99, 100, 101, 102, 103, 104, 105, 106, 107, 108]) (by decide +kernel))) (od_v 5) (by intro o i; rfl))) | exact sd_set (i := 3) sc_as_rules.nd rfl (by first | exact Or.inl rfl | exact Or.inr rfl) (ed_dc (vs := [5, 6]) rfl sc_as_rules.nd rfl (id_enum rfl T.z_enumerate (ed_v 2)) (own := [("at", 5), ("name", 6)]) (blkOk_by (own := [("at", 5), ("name", 6)]) (N := ["automaton", "states", "order", "letters", "rules", "at", "name", "end"]) (sc := defScope s_as_rules) (by decide +kernel)) (fun _ _ _ _ _ => (gvd_t rfl (gvsd_c (gvd_n (i := 5) sc_as_rules.nd (by decide) rfl (by first | exact Or.inl rfl | exact Or.inr rfl)) (gvsd_c (gvd_n (i := 6) sc_as_rules.nd (by decide) rfl (by first | exact Or.inl rfl | exact Or.inr rfl)) gvsd_n)))) (fun _ _ _ _ _ => tsd_n) (fun _ _ _ _ _ => (ed_v 6)) (fun _ _ _ _ _ => (ed_ix (rm1 hr) (od_e (ed_str (l := [97, 98, 99, 100, 101, 102, 103, 104, 105, 106, 107, 108]) (by decide +kernel))) (od_v 5) (by intro o i; rfl)))))
  (bd_cons (by first | exact sd_setDc (i := 4) (vs := [6]) rfl sc_as_rules.nd rfl rfl rfl (sw_trueD rfl rfl rfl (by decide +kernel)) (id_s (ed_v 2)) (own := [("name", 6)]) (blkOk_by (own := [("name", 6)]) (N := ["automaton", "states", "order", "letters", "rules", "at", "name", "end"]) (sc := defScope s_as_rules) (by decide +kernel)) (fun _ _ _ _ _ => (gvd_n (i := 6) sc_as_rules.nd (by decide) rfl (by first | exact Or.inl rfl | exact Or.inr rfl))) (fun _ _ _ _ _ => tsd_n) (fun _ _ _ _ _ => (ed_ix (rm1 hr) (od_v 3) (od_v 6) (by intro o i; rfl))) (fun _ _ _ _ _ => (ed_mt1 PySem.F.plainAttrs_str PySem.F.slot_str_join PySem.F.type_str_join mt_join k_join (od_e (ed_str (l := []) (by decide +kernel))) (od_e (ed_lc (vs := [7]) rfl sc_as_rules.nd rfl (id_s (ed_ix (rm1 hr) (od_e (ed_ix (rm1 hr) (od_v 1) (od_v 6) (by intro o i; rfl))) (od_e ed_int) (by intro o i; rfl))) (own := [("end", 7)]) (by refine blkOk_by (own := [("end", 7)]) (N := ["automaton", "states", "order", "letters", "rules", "at", "name", "end"]) (sc := { kind := PySem.ScopeKind.function, names := [(".0", PySem.NameKind.local), ("name", PySem.NameKind.local), ("letters", PySem.NameKind.cell), ("states", PySem.NameKind.cell)], isGenerator := false, isCoroutine := false }) ?_; decide +kernel) (fun _ _ _ _ _ => (gvd_n (i := 7) sc_as_rules.nd (by decide) rfl (by first | exact Or.inl rfl | exact Or.inr rfl))) (fun _ _ _ _ _ => tsd_n) (fun _ _ _ _ _ => (ed_ix (rm1 hr) (od_v 3) (od_v 7) (by intro o i; rfl))))))) | exact sd_set (i := 4) sc_as_rules.nd rfl (by first | exact Or.inl rfl | exact Or.inr rfl) (ed_dc (vs := [6]) rfl sc_as_rules.nd rfl (id_s (ed_v 2)) (own := [("name", 6)]) (blkOk_by (own := [("name", 6)]) (N := ["automaton", "states", "order", "letters", "rules", "at", "name", "end"]) (sc := defScope s_as_rules) (by decide +kernel)) (fun _ _ _ _ _ => (gvd_n (i := 6) sc_as_rules.nd (by decide) rfl (by first | exact Or.inl rfl | exact Or.inr rfl))) (fun _ _ _ _ _ => tsd_n) (fun _ _ _ _ _ => (ed_ix (rm1 hr) (od_v 3) (od_v 6) (by intro o i; rfl))) (fun _ _ _ _ _ => (ed_mt1 PySem.F.plainAttrs_str PySem.F.slot_str_join PySem.F.type_str_join mt_join k_join (od_e (ed_str (l := []) (by decide +kernel))) (od_e (ed_lc (vs := [7]) rfl sc_as_rules.nd rfl (id_s (ed_ix (rm1 hr) (od_e (ed_ix (rm1 hr) (od_v 1) (od_v 6) (by intro o i; rfl))) (od_e ed_int) (by intro o i; rfl))) (own := [("end", 7)]) (by refine blkOk_by (own := [("end", 7)]) (N := ["automaton", "states", "order", "letters", "rules", "at", "name", "end"]) (sc := { kind := PySem.ScopeKind.function, names := [(".0", PySem.NameKind.local), ("name", PySem.NameKind.local), ("letters", PySem.NameKind.cell), ("states", PySem.NameKind.cell)], isGenerator := false, isCoroutine := false }) ?_; decide +kernel) (fun _ _ _ _ _ => (gvd_n (i := 7) sc_as_rules.nd (by decide) rfl (by first | exact Or.inl rfl | exact Or.inr rfl))) (fun _ _ _ _ _ => tsd_n) (fun _ _ _ _ _ => (ed_ix (rm1 hr) (od_v 3) (od_v 7) (by intro o i; rfl)))))))))
  (bd_one (sd_ret (ed_tup (ad_c (ed_v 4) (ad_c (ed_dc (vs := [6]) rfl sc_as_rules.nd rfl (id_s (ed_v 2)) (own := [("name", 6)]) (blkOk_by (own := [("name", 6)]) (N := ["automaton", "states", "order", "letters", "rules", "at", "name", "end"]) (sc := defScope s_as_rules) (by decide +kernel)) (fun _ _ _ _ _ => (gvd_n (i := 6) sc_as_rules.nd (by decide) rfl (by first | exact Or.inl rfl | exact Or.inr rfl))) (fun _ _ _ _ _ => tsd_n) (fun _ _ _ _ _ => (ed_ix (rm1 hr) (od_v 3) (od_v 6) (by intro o i; rfl))) (fun _ _ _ _ _ => (ed_ix (rm1 hr) (od_e (ed_ix (rm1 hr) (od_v 1) (od_v 6) (by intro o i; rfl))) (od_e ed_int) (by intro o i; rfl)))) ad_n)))))))))
theorem c_as_rules (T : Tx K mg) : CF P w K mg base 2 "as_rules" (fs1 f_as_rules) := cf_of T.d_as_rules fun f fd F => okF1 F sc_as_rules (by decide) (dr_as_rules T) law_as_rules
theorem sc__law_mixed : FnScope ["number", "place", "first", "second", "third"] ["number", "place"] (defScope s__law_mixed) := ⟨rfl, rfl, rfl, by decide +kernel, rfl, by decide +kernel, by decide +kernel⟩
theorem dr__law_mixed {f : Addr} (T : Tx K mg) : DerOk P w K mg base ["number", "place", "first", "second", "third"] "_law_mixed" s__law_mixed f 0 w__law_mixed := fun cdv A outer s H E hr => (bd_cons (sd_set (i := 2) sc__law_mixed.nd rfl (by first | exact Or.inl rfl | exact Or.inr rfl) (ed_op op_mod k_mod (od_e (ed_callT1 call_int1 k_int rfl T.z_int (by decide +kernel) (od_e (ed_op op_addAll k_add (od_e (ed_op op_addAll k_add (od_e (ed_op op_mulG k_mulG (od_v 0) (od_e ed_int))) (od_e (ed_op op_mulG k_mulG (od_v 1) (od_e ed_int))))) (od_e ed_int))))) (od_e ed_int)))
  (bd_cons (sd_set (i := 3) sc__law_mixed.nd rfl (by first | exact Or.inl rfl | exact Or.inr rfl) (ed_op op_mod k_mod (od_e (ed_callT1 call_int1 k_int rfl T.z_int (by decide +kernel) (od_e (ed_op op_addAll k_add (od_e (ed_op op_addAll k_add (od_e (ed_op op_mulG k_mulG (od_v 2) (od_v 2))) (od_e (ed_op op_mulG k_mulG (od_e ed_int) (od_v 2))))) (od_v 1))))) (od_e ed_int)))
  (bd_cons (sd_set (i := 4) sc__law_mixed.nd rfl (by first | exact Or.inl rfl | exact Or.inr rfl) (ed_op op_mod k_mod (od_e (ed_callT1 call_int1 k_int rfl T.z_int (by decide +kernel) (od_e (ed_op op_addAll k_add (od_e (ed_op op_mulG k_mulG (od_v 3) (od_v 3))) (od_v 2))))) (od_e ed_int)))
  (bd_one (sd_ret (ed_op op_addAll k_add (od_e (ed_op op_mulG k_mulG (od_v 3) (od_e ed_int))) (od_v 4)))))))
theorem c__law_mixed (T : Tx K mg) : CF P w K mg base 1 "_law_mixed" (fs2 f__law_mixed) := cf_of T.d__law_mixed fun f fd F => okF2 F sc__law_mixed (by decide) (dr__law_mixed T) law__law_mixed
theorem sc__law_rest : FnScope ["script", "place", "fills", "number"] ["script", "place", "fills"] (defScope s__law_rest) := ⟨rfl, rfl, rfl, by decide +kernel, rfl, by decide +kernel, by decide +kernel⟩
theorem dr__law_rest {f : Addr} (T : Tx K mg) : DerOk P w K mg base ["script", "place", "fills", "number"] "_law_rest" s__law_rest f 1 w__law_rest := fun cdv A outer s H E hr => (bd_cons (sd_set (i := 3) sc__law_rest.nd rfl (by first | exact Or.inl rfl | exact Or.inr rfl) ed_int)
  (bd_consJ (sd_if (td_cmp (op_gtG (rm64 hr)) k_gt (nomark _) (od_e (ed_call1 call_lenAll k_len rfl T.z_len (by decide +kernel) (od_v 0))) (od_e ed_int)) (bd_one (sd_set (i := 3) sc__law_rest.nd rfl (by first | exact Or.inl rfl | exact Or.inr rfl) (ed_callT1 call_int1 k_int rfl T.z_int (by decide +kernel) (od_e (ed_ix (rm1 hr) (od_v 0) (od_e (ed_op op_mod k_mod (od_e (ed_callT1 call_int1 k_int rfl T.z_int (by decide +kernel) (od_v 1))) (od_e (ed_call1 call_lenAll k_len rfl T.z_len (by decide +kernel) (od_v 0))))) (by intro o i; rfl)))))) bd_nil)
  (bd_consJ (sd_if (td_cmp (op_ltG (rm64 hr)) k_lt (nomark _) (od_v 3) (od_e ed_int)) (bd_one (sd_set (i := 3) sc__law_rest.nd rfl (by first | exact Or.inl rfl | exact Or.inr rfl) (ed_op op_sub k_sub (od_e ed_int) (od_e (ed_op op_mulG k_mulG (od_e ed_int) (od_v 3)))))) bd_nil)
  (bd_consJ (sd_if (td_w (wd_and (td_cmp (op_eqG (rm64 hr)) k_eq (nomark _) (od_v 2) (od_e ed_int)) (wd_and (td_cmp (op_ltG (rm64 hr)) k_lt (nomark _) (od_v 1) (od_e (ed_call1 call_lenAll k_len rfl T.z_len (by decide +kernel) (od_v 0)))) (wd_and1 (td_cmp (op_geG (rm64 hr)) k_ge (nomark _) (od_v 3) (od_e (ed_op op_pow k_pow (od_e ed_int) (od_e ed_int)))))))) (bd_one (sd_ret (ed_op op_sub k_sub (od_v 3) (od_e (ed_op op_pow k_pow (od_e ed_int) (od_e ed_int)))))) bd_nil)
  (bd_one (sd_ret (ed_f (c__law_mixed T) (hr.mono (by decide)) rfl (ad_c (ed_op op_addAll k_add (od_v 3) (od_e (ed_op op_mulG k_mulG (od_v 2) (od_e ed_int)))) (ad_c (ed_v 1) ad_n)))))))))
theorem c__law_rest (T : Tx K mg) : CF P w K mg base 2 "_law_rest" (fs3 f__law_rest) := cf_of T.d__law_rest fun f fd F => okF3 F sc__law_rest (by decide) (dr__law_rest T) law__law_rest
theorem sc__law_pool : FnScope ["script"] ["script"] (defScope s__law_pool) := ⟨rfl, rfl, rfl, by decide +kernel, rfl, by decide +kernel, by decide +kernel⟩
theorem dr__law_pool {f : Addr} (T : Tx K mg) : DerOk P w K mg base ["script"] "_law_pool" s__law_pool f 2 w__law_pool := fun cdv A outer s H E hr => (bd_one (sd_ret (ed_lst (ad_c (ed_v 0) (ad_c ed_int (ad_c (ed_f (c__law_rest T) (hr.mono (by decide)) rfl (ad_c (ed_v 0) (ad_c ed_int (ad_c ed_int ad_n)))) (ad_c ed_int ad_n)))))))
theorem c__law_pool (T : Tx K mg) : CF P w K mg base 3 "_law_pool" (fs1 f__law_pool) := cf_of T.d__law_pool fun f fd F => okF1 F sc__law_pool (by decide) (dr__law_pool T) law__law_pool
theorem sc__law_next : FnScope ["pool"] ["pool"] (defScope s__law_next) := ⟨rfl, rfl, rfl, by decide +kernel, rfl, by decide +kernel, by decide +kernel⟩
theorem dr__law_next {f : Addr} (T : Tx K mg) : DerOk P w K mg base ["pool"] "_law_next" s__law_next f 2 w__law_next := fun cdv A outer s H E hr => (bd_cons (sd_sub (rm1 hr) (pv 0) ed_int (ed_op op_addAll k_add (od_e (ed_ix (rm1 hr) (od_v 0) (od_e ed_int) (by intro o i; rfl))) (od_e ed_int)))
  (bd_cons (sd_sub (rm1 hr) (pv 0) ed_int (ed_f (c__law_rest T) (hr.mono (by decide)) rfl (ad_c (ed_ix (rm1 hr) (od_v 0) (od_e ed_int) (by intro o i; rfl)) (ad_c (ed_ix (rm1 hr) (od_v 0) (od_e ed_int) (by intro o i; rfl)) (ad_c ed_int ad_n)))))
  (bd_one (sd_sub (rm1 hr) (pv 0) ed_int ed_int))))
theorem c__law_next (T : Tx K mg) : CP P w K mg base 3 "_law_next" (ps0 f__law_next) := cf_of T.d__law_next fun f fd F => okP0 F sc__law_next (by decide) (dr__law_next T) law__law_next
theorem sc__law_draw : FnScope ["pool", "limit", "value"] ["pool", "limit"] (defScope s__law_draw) := ⟨rfl, rfl, rfl, by decide +kernel, rfl, by decide +kernel, by decide +kernel⟩
theorem dr__law_draw {f : Addr} (T : Tx K mg) : DerOk P w K mg base ["pool", "limit", "value"] "_law_draw" s__law_draw f 2 w__law_draw := fun cdv A outer s H E hr => (bd_consJ (sd_if (td_cmp (op_leG (rm64 hr)) k_le (nomark _) (od_e (ed_ix (rm1 hr) (od_v 0) (od_e ed_int) (by intro o i; rfl))) (od_e ed_int)) (bd_cons (sd_sub (rm1 hr) (pv 0) ed_int (ed_op op_addAll k_add (od_e (ed_ix (rm1 hr) (od_v 0) (od_e ed_int) (by intro o i; rfl))) (od_e ed_int)))
  (bd_one (sd_sub (rm1 hr) (pv 0) ed_int (ed_f (c__law_rest T) (hr.mono (by decide)) rfl (ad_c (ed_ix (rm1 hr) (od_v 0) (od_e ed_int) (by intro o i; rfl)) (ad_c (ed_ix (rm1 hr) (od_v 0) (od_e ed_int) (by intro o i; rfl)) (ad_c (ed_ix (rm1 hr) (od_v 0) (od_e ed_int) (by intro o i; rfl)) ad_n))))))) bd_nil)
  (bd_cons (sd_set (i := 2) sc__law_draw.nd rfl (by first | exact Or.inl rfl | exact Or.inr rfl) (ed_op op_mod k_mod (od_e (ed_callT1 call_int1 k_int rfl T.z_int (by decide +kernel) (od_e (ed_ix (rm1 hr) (od_v 0) (od_e ed_int) (by intro o i; rfl))))) (od_v 1)))
  (bd_cons (sd_sub (rm1 hr) (pv 0) ed_int (ed_op op_fdA k_fdiv (od_e (ed_callT1 call_int1 k_int rfl T.z_int (by decide +kernel) (od_e (ed_ix (rm1 hr) (od_v 0) (od_e ed_int) (by intro o i; rfl))))) (od_v 1)))
  (bd_one (sd_ret (ed_m 2))))))
theorem c__law_draw (T : Tx K mg) : CP P w K mg base 3 "_law_draw" (ps1 f__law_draw) := cf_of T.d__law_draw fun f fd F => okP1 F sc__law_draw (by decide) (dr__law_draw T) law__law_draw
theorem sc__law_pick : FnScope ["pool", "options"] ["pool", "options"] (defScope s__law_pick) := ⟨rfl, rfl, rfl, by decide +kernel, rfl, by decide +kernel, by decide +kernel⟩
theorem dr__law_pick {f : Addr} (T : Tx K mg) : DerOk P w K mg base ["pool", "options"] "_law_pick" s__law_pick f 3 w__law_pick := fun cdv A outer s H E hr => (bd_one (sd_ret (ed_ix (rm1 hr) (od_v 1) (od_e (ed_p (c__law_draw T) (hr.mono (by decide)) rfl (pv 0) (ad_c (ed_call1 call_lenAll k_len rfl T.z_len (by decide +kernel) (od_v 1)) ad_n))) (by intro o i; rfl))))
theorem c__law_pick (T : Tx K mg) : CP P w K mg base 4 "_law_pick" (ps1 f__law_pick) := cf_of T.d__law_pick fun f fd F => okP1 F sc__law_pick (by decide) (dr__law_pick T) law__law_pick
theorem sc__law_automaton : FnScope ["pool", "b", "many", "names", "k", "start", "states", "name", "steps"] ["pool", "b", "many"] (defScope s__law_automaton) := ⟨rfl, rfl, rfl, by decide +kernel, rfl, by decide +kernel, by decide +kernel⟩
theorem dr__law_automaton {f : Addr} (T : Tx K mg) : DerOk P w K mg base ["pool", "b", "many", "names", "k", "start", "states", "name", "steps"] "_law_automaton" s__law_automaton f 4 w__law_automaton := fun cdv A outer s H E hr => (bd_cons (sd_set (i := 3) sc__law_automaton.nd rfl (by first | exact Or.inl rfl | exact Or.inr rfl) (ed_lst ad_n))
  (bd_cons (sd_for PassesOwn.never rfl (id_r1 rfl T.z_range (ed_v 2)) (gd_n (i := 4) sc__law_automaton.nd rfl (by first | exact Or.inl rfl | exact Or.inr rfl)) (bd_one (sd_expr (ed_append (pv 3) (ed_op op_addAll k_add (od_e (ed_ix (rm1 hr) (od_e (ed_str (l := [97, 98, 99, 100, 101, 102, 103, 104, 105, 106, 107, 108]) (by decide +kernel))) (od_e (ed_p (c__law_draw T) (hr.mono (by decide)) rfl (pv 0) (ad_c ed_int ad_n))) (by intro o i; rfl))) (od_e (ed_callT1 call_strG k_str rfl T.z_str (by decide +kernel) (od_v 4))))))))
  (bd_cons (sd_set (i := 5) sc__law_automaton.nd rfl (by first | exact Or.inl rfl | exact Or.inr rfl) (ed_ix (rm1 hr) (od_v 3) (od_e (ed_p (c__law_draw T) (hr.mono (by decide)) rfl (pv 0) (ad_c (ed_v 2) ad_n))) (by intro o i; rfl)))
  (bd_cons (sd_set (i := 6) sc__law_automaton.nd rfl (by first | exact Or.inl rfl | exact Or.inr rfl) ed_dct0)
  (bd_cons (sd_for PassesOwn.never rfl (id_s (ed_v 3)) (gd_n (i := 7) sc__law_automaton.nd rfl (by first | exact Or.inl rfl | exact Or.inr rfl)) (bd_cons (sd_expr (ed_p (c__law_next T) (hr.mono (by decide)) rfl (pv 0) ad_n))
  (bd_cons (by first | exact sd_setLc (i := 8) (vs := [4]) rfl sc__law_automaton.nd rfl rfl rfl (sw_true rfl rfl rfl (by decide +kernel)) (id_r1 rfl T.z_range (ed_v 1)) (own := [("k", 4)]) (blkOk_by (own := [("k", 4)]) (N := ["pool", "b", "many", "names", "k", "start", "states", "name", "steps"]) (sc := defScope s__law_automaton) (by decide +kernel)) (fun _ _ _ _ _ => (gvd_n (i := 4) sc__law_automaton.nd (by decide) rfl (by first | exact Or.inl rfl | exact Or.inr rfl))) (fun _ _ _ _ _ => tsd_n) (fun _ _ _ _ _ => (ed_p (c__law_pick T) (hr.mono (by decide)) rfl (pv 0) (ad_c (ed_v 3) ad_n))) | exact sd_set (i := 8) sc__law_automaton.nd rfl (by first | exact Or.inl rfl | exact Or.inr rfl) (ed_lc (vs := [4]) rfl sc__law_automaton.nd rfl (id_r1 rfl T.z_range (ed_v 1)) (own := [("k", 4)]) (blkOk_by (own := [("k", 4)]) (N := ["pool", "b", "many", "names", "k", "start", "states", "name", "steps"]) (sc := defScope s__law_automaton) (by decide +kernel)) (fun _ _ _ _ _ => (gvd_n (i := 4) sc__law_automaton.nd (by decide) rfl (by first | exact Or.inl rfl | exact Or.inr rfl))) (fun _ _ _ _ _ => tsd_n) (fun _ _ _ _ _ => (ed_p (c__law_pick T) (hr.mono (by decide)) rfl (pv 0) (ad_c (ed_v 3) ad_n)))))
  (bd_consJ (sd_if (td_cmp (op_eqG (rm64 hr)) k_eq (nomark _) (od_v 7) (od_v 5)) (bd_one (sd_sub (rm1 hr) (pv 8) ed_int (ed_v 5))) bd_nil)
  (bd_one (sd_sub (rm1 hr) (pv 6) (ed_v 7) (ed_tup (ad_c (ed_p (c__law_pick T) (hr.mono (by decide)) rfl (pv 0) (ad_c (ed_lst (ad_c (ed_str (l := [120]) (by decide +kernel)) (ad_c (ed_str (l := [121]) (by decide +kernel)) (ad_c (ed_str (l := [121]) (by decide +kernel)) (ad_c (ed_str (l := [122]) (by decide +kernel)) ad_n))))) ad_n)) (ad_c (ed_v 8) ad_n)))))))))
  (bd_one (sd_ret (ed_tup (ad_c (ed_v 5) (ad_c (ed_v 6) ad_n))))))))))
theorem c__law_automaton (T : Tx K mg) : CP P w K mg base 5 "_law_automaton" (ps2 f__law_automaton) := cf_of T.d__law_automaton fun f fd F => okP2 F sc__law_automaton (by decide) (dr__law_automaton T) law__law_automaton
theorem sc__law_digits : FnScope ["b", "n", "found"] ["b", "n"] (defScope s__law_digits) := ⟨rfl, rfl, rfl, by decide +kernel, rfl, by decide +kernel, by decide +kernel⟩
theorem dr__law_digits {f : Addr} (T : Tx K mg) : DerOk P w K mg base ["b", "n", "found"] "_law_digits" s__law_digits f 0 w__law_digits := fun cdv A outer s H E hr => (bd_cons (sd_set (i := 2) sc__law_digits.nd rfl (by first | exact Or.inl rfl | exact Or.inr rfl) (ed_lst ad_n))
  (bd_cons (sd_while PassesOwn.never (td_cmp (op_gtG (rm64 hr)) k_gt (nomark _) (od_v 1) (od_e ed_int)) (bd_cons (sd_set (i := 2) sc__law_digits.nd rfl (by first | exact Or.inl rfl | exact Or.inr rfl) (ed_op op_addAll k_add (od_e (ed_lst (ad_c (ed_op op_mod k_mod (od_e (ed_callT1 call_int1 k_int rfl T.z_int (by decide +kernel) (od_v 1))) (od_v 0)) ad_n))) (od_v 2)))
  (bd_one (sd_set (i := 1) sc__law_digits.nd rfl (by first | exact Or.inl rfl | exact Or.inr rfl) (ed_op op_fdA k_fdiv (od_v 1) (od_v 0))))))
  (bd_one (sd_ret (ed_m 2)))))
theorem c__law_digits (T : Tx K mg) : CF P w K mg base 1 "_law_digits" (fs2 f__law_digits) := cf_of T.d__law_digits fun f fd F => okF2 F sc__law_digits (by decide) (dr__law_digits T) law__law_digits
theorem sc__law_letter : FnScope ["b", "automaton", "n", "here", "digit"] ["b", "automaton", "n"] (defScope s__law_letter) := ⟨rfl, rfl, rfl, by decide +kernel, rfl, by decide +kernel, by decide +kernel⟩
theorem dr__law_letter {f : Addr} (T : Tx K mg) : DerOk P w K mg base ["b", "automaton", "n", "here", "digit"] "_law_letter" s__law_letter f 1 w__law_letter := fun cdv A outer s H E hr => (bd_cons (sd_set (i := 3) sc__law_letter.nd rfl (by first | exact Or.inl rfl | exact Or.inr rfl) (ed_ix (rm1 hr) (od_v 1) (od_e ed_int) (by intro o i; rfl)))
  (bd_cons (sd_for PassesOwn.never rfl (id_s (ed_f (c__law_digits T) (hr.mono (by decide)) rfl (ad_c (ed_v 0) (ad_c (ed_v 2) ad_n)))) (gd_n (i := 4) sc__law_letter.nd rfl (by first | exact Or.inl rfl | exact Or.inr rfl)) (bd_one (sd_set (i := 3) sc__law_letter.nd rfl (by first | exact Or.inl rfl | exact Or.inr rfl) (ed_ix (rm1 hr) (od_e (ed_ix (rm1 hr) (od_e (ed_ix (rm1 hr) (od_e (ed_ix (rm1 hr) (od_v 1) (od_e ed_int) (by intro o i; rfl))) (od_v 3) (by intro o i; rfl))) (od_e ed_int) (by intro o i; rfl))) (od_v 4) (by intro o i; rfl)))))
  (bd_one (sd_ret (ed_ix (rm1 hr) (od_e (ed_ix (rm1 hr) (od_e (ed_ix (rm1 hr) (od_v 1) (od_e ed_int) (by intro o i; rfl))) (od_v 3) (by intro o i; rfl))) (od_e ed_int) (by intro o i; rfl))))))
theorem c__law_letter (T : Tx K mg) : CF P w K mg base 2 "_law_letter" (fs3 f__law_letter) := cf_of T.d__law_letter fun f fd F => okF3 F sc__law_letter (by decide) (dr__law_letter T) law__law_letter
theorem sc__law_row : FnScope ["b", "automaton", "n", "text", "k"] ["b", "automaton", "n"] (defScope s__law_row) := ⟨rfl, rfl, rfl, by decide +kernel, rfl, by decide +kernel, by decide +kernel⟩
theorem dr__law_row {f : Addr} (T : Tx K mg) : DerOk P w K mg base ["b", "automaton", "n", "text", "k"] "_law_row" s__law_row f 2 w__law_row := fun cdv A outer s H E hr => (bd_cons (sd_set (i := 3) sc__law_row.nd rfl (by first | exact Or.inl rfl | exact Or.inr rfl) (ed_str (l := []) (by decide +kernel)))
  (bd_cons (sd_for PassesOwn.never rfl (id_r1 rfl T.z_range (ed_v 2)) (gd_n (i := 4) sc__law_row.nd rfl (by first | exact Or.inl rfl | exact Or.inr rfl)) (bd_one (sd_set (i := 3) sc__law_row.nd rfl (by first | exact Or.inl rfl | exact Or.inr rfl) (ed_op op_addAll k_add (od_v 3) (od_e (ed_f (c__law_letter T) (hr.mono (by decide)) rfl (ad_c (ed_v 0) (ad_c (ed_v 1) (ad_c (ed_v 4) ad_n)))))))))
  (bd_one (sd_ret (ed_m 3)))))
theorem c__law_row (T : Tx K mg) : CF P w K mg base 3 "_law_row" (fs3 f__law_row) := cf_of T.d__law_row fun f fd F => okF3 F sc__law_row (by decide) (dr__law_row T) law__law_row
theorem sc__law_reached : FnScope ["automaton", "found", "at", "name"] ["automaton"] (defScope s__law_reached) := ⟨rfl, rfl, rfl, by decide +kernel, rfl, by decide +kernel, by decide +kernel⟩
theorem dr__law_reached {f : Addr} (T : Tx K mg) : DerOk P w K mg base ["automaton", "found", "at", "name"] "_law_reached" s__law_reached f 0 w__law_reached := fun cdv A outer s H E hr => (bd_cons (sd_set (i := 1) sc__law_reached.nd rfl (by first | exact Or.inl rfl | exact Or.inr rfl) (ed_lst (ad_c (ed_ix (rm1 hr) (od_v 0) (od_e ed_int) (by intro o i; rfl)) ad_n)))
  (bd_cons (sd_set (i := 2) sc__law_reached.nd rfl (by first | exact Or.inl rfl | exact Or.inr rfl) ed_int)
  (bd_cons (sd_while PassesOwn.never (td_cmp (op_ltG (rm64 hr)) k_lt (nomark _) (od_v 2) (od_e (ed_call1 call_lenAll k_len rfl T.z_len (by decide +kernel) (od_v 1)))) (bd_cons (sd_for PassesOwn.never rfl (id_s (ed_ix (rm1 hr) (od_e (ed_ix (rm1 hr) (od_e (ed_ix (rm1 hr) (od_v 0) (od_e ed_int) (by intro o i; rfl))) (od_e (ed_ix (rm1 hr) (od_v 1) (od_v 2) (by intro o i; rfl))) (by intro o i; rfl))) (od_e ed_int) (by intro o i; rfl))) (gd_n (i := 3) sc__law_reached.nd rfl (by first | exact Or.inl rfl | exact Or.inr rfl)) (bd_one (sd_if (td_cmp (op_ninAll (rm65 hr)) k_nin (by rfl) (od_v 3) (od_v 1)) (bd_one (sd_expr (ed_append (pv 1) (ed_v 3)))) bd_nil)))
  (bd_one (sd_set (i := 2) sc__law_reached.nd rfl (by first | exact Or.inl rfl | exact Or.inr rfl) (ed_op op_addAll k_add (od_v 2) (od_e ed_int))))))
  (bd_one (sd_ret (ed_m 1))))))
theorem c__law_reached (T : Tx K mg) : CF P w K mg base 1 "_law_reached" (fs1 f__law_reached) := cf_of T.d__law_reached fun f fd F => okF1 F sc__law_reached (by decide) (dr__law_reached T) law__law_reached
theorem sc_law : FnScope ["script", "pool", "b", "automaton", "many", "row", "told", "near", "at", "word", "place", "k", "rules", "letters", "grown", "further", "letter", "text", "order", "steps", "j"] ["script"] (defScope s_law) := ⟨rfl, rfl, rfl, by decide +kernel, rfl, by decide +kernel, by decide +kernel⟩
theorem dr_law {f : Addr} (T : Tx K mg) : DerOk P w K mg base ["script", "pool", "b", "automaton", "many", "row", "told", "near", "at", "word", "place", "k", "rules", "letters", "grown", "further", "letter", "text", "order", "steps", "j"] "law" s_law f 5 w_law := fun cdv A outer s H E hr => (bd_cons (sd_set (i := 1) sc_law.nd rfl (by first | exact Or.inl rfl | exact Or.inr rfl) (ed_f (c__law_pool T) (hr.mono (by decide)) rfl (ad_c (ed_v 0) ad_n)))
  (bd_cons (sd_set (i := 2) sc_law.nd rfl (by first | exact Or.inl rfl | exact Or.inr rfl) (ed_op op_addAll k_add (od_e ed_int) (od_e (ed_p (c__law_draw T) (hr.mono (by decide)) rfl (pv 1) (ad_c ed_int ad_n)))))
  (bd_cons (sd_set (i := 3) sc_law.nd rfl (by first | exact Or.inl rfl | exact Or.inr rfl) (ed_p (c__law_automaton T) (hr.mono (by decide)) rfl (pv 1) (ad_c (ed_v 2) (ad_c (ed_op op_addAll k_add (od_e ed_int) (od_e (ed_p (c__law_draw T) (hr.mono (by decide)) rfl (pv 1) (ad_c ed_int ad_n)))) ad_n))))
  (bd_cons (sd_set (i := 4) sc_law.nd rfl (by first | exact Or.inl rfl | exact Or.inr rfl) (ed_op op_addAll k_add (od_e ed_int) (od_e (ed_p (c__law_draw T) (hr.mono (by decide)) rfl (pv 1) (ad_c ed_int ad_n)))))
  (bd_cons (sd_set (i := 5) sc_law.nd rfl (by first | exact Or.inl rfl | exact Or.inr rfl) (ed_f (c__law_row T) (hr.mono (by decide)) rfl (ad_c (ed_v 2) (ad_c (ed_v 3) (ad_c ed_int ad_n)))))
  (bd_cons (sd_set (i := 6) sc_law.nd rfl (by first | exact Or.inl rfl | exact Or.inr rfl) (ed_f (c_pieces T) (hr.mono (by decide)) rfl (ad_c (ed_v 2) (ad_c (ed_v 3) (ad_c (ed_v 4) ad_n)))))
  (bd_cons (sd_set (i := 7) sc_law.nd rfl (by first | exact Or.inl rfl | exact Or.inr rfl) (ed_lst ad_n))
  (bd_cons (sd_for PassesOwn.never rfl (id_r1 rfl T.z_range (ed_op op_addAll k_add (od_e (ed_op op_sub k_sub (od_e (ed_call1 call_lenAll k_len rfl T.z_len (by decide +kernel) (od_v 5))) (od_v 4))) (od_e ed_int))) (gd_n (i := 8) sc_law.nd rfl (by first | exact Or.inl rfl | exact Or.inr rfl)) (bd_one (sd_if (td_cmp (op_ninAll (rm65 hr)) k_nin (by rfl) (od_e (ed_slice (od_v 5) (pd_s (ed_v 8)) (pd_s (ed_op op_addAll k_add (od_v 8) (od_v 4))))) (od_v 7)) (bd_one (sd_expr (ed_append (pv 7) (ed_slice (od_v 5) (pd_s (ed_v 8)) (pd_s (ed_op op_addAll k_add (od_v 8) (od_v 4))))))) bd_nil)))
  (bd_cons (sd_if (td_w (wd_or (td_cmp (op_neG (rm64 hr)) k_ne (nomark _) (od_v 6) (od_e (ed_call1 (cr_sortD (rm70 hr)) k_sorted rfl T.z_sorted (by decide +kernel) (od_v 6)))) (wd_or (td_cmp (op_gtG (rm64 hr)) k_gt (nomark _) (od_e (ed_call1 call_lenAll k_len rfl T.z_len (by decide +kernel) (od_e (ed_lc (vs := [9]) rfl sc_law.nd rfl (id_s (ed_v 7)) (own := [("word", 9)]) (blkOk_by (own := [("word", 9)]) (N := ["script", "pool", "b", "automaton", "many", "row", "told", "near", "at", "word", "place", "k", "rules", "letters", "grown", "further", "letter", "text", "order", "steps", "j"]) (sc := defScope s_law) (by decide +kernel)) (fun _ _ _ _ _ => (gvd_n (i := 9) sc_law.nd (by decide) rfl (by first | exact Or.inl rfl | exact Or.inr rfl))) (fun _ _ _ _ _ => (tsd_1 (td_cmp (op_ninAll (rm65 hr)) k_nin (by rfl) (od_v 9) (od_v 6)))) (fun _ _ _ _ _ => (ed_v 9)))))) (od_e ed_int)) (wd_or1 (td_cmp (op_gtG (rm64 hr)) k_gt (nomark _) (od_e (ed_call1 call_lenAll k_len rfl T.z_len (by decide +kernel) (od_e (ed_lc (vs := [11]) rfl sc_law.nd rfl (id_r2 rfl T.z_range ed_int (ed_call1 call_lenAll k_len rfl T.z_len (by decide +kernel) (od_v 6))) (own := [("k", 11)]) (blkOk_by (own := [("k", 11)]) (N := ["script", "pool", "b", "automaton", "many", "row", "told", "near", "at", "word", "place", "k", "rules", "letters", "grown", "further", "letter", "text", "order", "steps", "j"]) (sc := defScope s_law) (by decide +kernel)) (fun _ _ _ _ _ => (gvd_n (i := 11) sc_law.nd (by decide) rfl (by first | exact Or.inl rfl | exact Or.inr rfl))) (fun _ _ _ _ _ => (tsd_1 (td_cmp (op_eqG (rm64 hr)) k_eq (nomark _) (od_e (ed_ix (rm1 hr) (od_v 6) (od_v 11) (by intro o i; rfl))) (od_e (ed_ix (rm1 hr) (od_v 6) (od_e (ed_op op_sub k_sub (od_v 11) (od_e ed_int))) (by intro o i; rfl)))))) (fun _ _ _ _ _ => (ed_v 11)))))) (od_e ed_int)))))) (bd_one (sd_ret ed_bl)) bd_nil)
  (bd_cons (sd_for PassesOwn.never rfl (id_s (ed_v 6)) (gd_n (i := 9) sc_law.nd rfl (by first | exact Or.inl rfl | exact Or.inr rfl)) (bd_cons (sd_set (i := 10) sc_law.nd rfl (by first | exact Or.inl rfl | exact Or.inr rfl) (ed_f (c_first_piece T) (hr.mono (by decide)) rfl (ad_c (ed_v 2) (ad_c (ed_v 3) (ad_c (ed_v 9) ad_n)))))
  (bd_consJ (sd_if (td_w (wd_or (td_cmp op_isN k_isN (nomark _) (od_v 10) (od_e ed_non)) (wd_or (td_w (wd_and (td_cmp (op_inAll (rm65 hr)) k_in (by rfl) (od_v 9) (od_v 7)) (wd_and1 (td_cmp (op_neG (rm64 hr)) k_ne (nomark _) (od_v 10) (od_e (ed_mt1 PySem.F.plainAttrs_str PySem.F.slot_str_index PySem.F.type_str_index mt_sindex k_indexS (od_v 5) (od_v 9))))))) (wd_or1 (td_w (wd_and (td_cmp (op_ninAll (rm65 hr)) k_nin (by rfl) (od_v 9) (od_v 7)) (wd_and1 (td_cmp (op_ltG (rm64 hr)) k_lt (nomark _) (od_v 10) (od_e (ed_op op_sub k_sub (od_e (ed_call1 call_lenAll k_len rfl T.z_len (by decide +kernel) (od_v 5))) (od_v 4))))))))))) (bd_one (sd_ret ed_bl)) bd_nil)
  (bd_one (sd_for PassesOwn.never rfl (id_r1 rfl T.z_range (ed_v 4)) (gd_n (i := 11) sc_law.nd rfl (by first | exact Or.inl rfl | exact Or.inr rfl)) (bd_one (sd_if (td_cmp (op_neG (rm64 hr)) k_ne (nomark _) (od_e (ed_f (c_letter_at T) (hr.mono (by decide)) rfl (ad_c (ed_v 2) (ad_c (ed_v 3) (ad_c (ed_op op_addAll k_add (od_v 10) (od_v 11)) ad_n))))) (od_e (ed_ix (rm1 hr) (od_v 9) (od_v 11) (by intro o i; rfl)))) (bd_one (sd_ret ed_bl)) bd_nil)))))))
  (bd_cons (sd_set (i := 9) sc_law.nd rfl (by first | exact Or.inl rfl | exact Or.inr rfl) (ed_str (l := []) (by decide +kernel)))
  (bd_cons (sd_for PassesOwn.never rfl (id_r1 rfl T.z_range (ed_v 4)) (gd_n (i := 11) sc_law.nd rfl (by first | exact Or.inl rfl | exact Or.inr rfl)) (bd_one (sd_set (i := 9) sc_law.nd rfl (by first | exact Or.inl rfl | exact Or.inr rfl) (ed_op op_addAll k_add (od_v 9) (od_e (ed_p (c__law_pick T) (hr.mono (by decide)) rfl (pv 1) (ad_c (ed_lst (ad_c (ed_str (l := [120]) (by decide +kernel)) (ad_c (ed_str (l := [121]) (by decide +kernel)) (ad_c (ed_str (l := [122]) (by decide +kernel)) (ad_c (ed_str (l := [119]) (by decide +kernel)) ad_n))))) ad_n)))))))
  (bd_consJ (sd_if (td_cmp (op_neG (rm64 hr)) k_ne (nomark _) (od_e (ed_cmp op_isN k_isN (nomark _) (od_e (ed_f (c_first_piece T) (hr.mono (by decide)) rfl (ad_c (ed_v 2) (ad_c (ed_v 3) (ad_c (ed_v 9) ad_n))))) (od_e ed_non))) (od_e (ed_cmp (op_ninAll (rm65 hr)) k_nin (by rfl) (od_v 9) (od_v 6)))) (bd_one (sd_ret ed_bl)) bd_nil)
  (bd_cons (sd_asg (ed_f (c_as_rules T) (hr.mono (by decide)) rfl (ad_c (ed_v 3) ad_n)) (gd_t rfl (gsd_c (gd_n (i := 12) sc_law.nd rfl (by first | exact Or.inl rfl | exact Or.inr rfl)) (gsd_c (gd_n (i := 13) sc_law.nd rfl (by first | exact Or.inl rfl | exact Or.inr rfl)) gsd_n))))
  (bd_cons (sd_set (i := 14) sc_law.nd rfl (by first | exact Or.inl rfl | exact Or.inr rfl) (ed_str (l := [97]) (by decide +kernel)))
  (bd_cons (sd_while PassesOwn.never (td_cmp (op_ltG (rm64 hr)) k_lt (nomark _) (od_e (ed_call1 call_lenAll k_len rfl T.z_len (by decide +kernel) (od_v 14))) (od_e ed_int)) (bd_cons (sd_set (i := 15) sc_law.nd rfl (by first | exact Or.inl rfl | exact Or.inr rfl) (ed_str (l := []) (by decide +kernel)))
  (bd_cons (sd_for PassesOwn.never rfl (id_s (ed_v 14)) (gd_n (i := 16) sc_law.nd rfl (by first | exact Or.inl rfl | exact Or.inr rfl)) (bd_one (sd_set (i := 15) sc_law.nd rfl (by first | exact Or.inl rfl | exact Or.inr rfl) (ed_op op_addAll k_add (od_v 15) (od_e (ed_ix (rm1 hr) (od_v 12) (od_v 16) (by intro o i; rfl)))))))
  (bd_cons (sd_if (td_cmp (op_leG (rm64 hr)) k_le (nomark _) (od_e (ed_call1 call_lenAll k_len rfl T.z_len (by decide +kernel) (od_v 15))) (od_e (ed_call1 call_lenAll k_len rfl T.z_len (by decide +kernel) (od_v 14)))) (bd_one (sd_ret ed_bl)) bd_nil)
  (bd_one (sd_set (i := 14) sc_law.nd rfl (by first | exact Or.inl rfl | exact Or.inr rfl) (ed_v 15)))))))
  (bd_cons (sd_set (i := 17) sc_law.nd rfl (by first | exact Or.inl rfl | exact Or.inr rfl) (ed_str (l := []) (by decide +kernel)))
  (bd_cons (sd_for PassesOwn.never rfl (id_s (ed_slice (od_v 14) pd_n (pd_s ed_int))) (gd_n (i := 16) sc_law.nd rfl (by first | exact Or.inl rfl | exact Or.inr rfl)) (bd_one (sd_set (i := 17) sc_law.nd rfl (by first | exact Or.inl rfl | exact Or.inr rfl) (ed_op op_addAll k_add (od_v 17) (od_e (ed_ix (rm1 hr) (od_v 13) (od_v 16) (by intro o i; rfl)))))))
  (bd_cons (sd_if (td_w (wd_or (td_cmp (op_neG (rm64 hr)) k_ne (nomark _) (od_v 17) (od_e (ed_slice (od_v 5) pd_n (pd_s ed_int)))) (wd_or1 (td_cmp (op_neG (rm64 hr)) k_ne (nomark _) (od_e (ed_call1 (cr_sortK rfl (rm70 hr)) k_sortK rfl T.z_sorted (by decide +kernel) (od_v 12))) (od_e (ed_call1 (cr_sortK rfl (rm70 hr)) k_sortK rfl T.z_sorted (by decide +kernel) (od_v 13))))))) (bd_one (sd_ret ed_bl)) bd_nil)
  (bd_cons (sd_set (i := 18) sc_law.nd rfl (by first | exact Or.inl rfl | exact Or.inr rfl) (ed_f (c__law_reached T) (hr.mono (by decide)) rfl (ad_c (ed_v 3) ad_n)))
  (bd_cons (sd_for PassesOwn.never rfl (id_r1 rfl T.z_range (ed_call1 call_lenAll k_len rfl T.z_len (by decide +kernel) (od_v 18))) (gd_n (i := 11) sc_law.nd rfl (by first | exact Or.inl rfl | exact Or.inr rfl)) (bd_cons (sd_asg (ed_ix (rm1 hr) (od_e (ed_ix (rm1 hr) (od_v 3) (od_e ed_int) (by intro o i; rfl))) (od_e (ed_ix (rm1 hr) (od_v 18) (od_v 11) (by intro o i; rfl))) (by intro o i; rfl)) (gd_t rfl (gsd_c (gd_n (i := 16) sc_law.nd rfl (by first | exact Or.inl rfl | exact Or.inr rfl)) (gsd_c (gd_n (i := 19) sc_law.nd rfl (by first | exact Or.inl rfl | exact Or.inr rfl)) gsd_n))))
  (bd_cons (sd_if (td_cmp (op_neG (rm64 hr)) k_ne (nomark _) (od_e (ed_ix (rm1 hr) (od_v 13) (od_e (ed_ix (rm1 hr) (od_e (ed_str (l := [97, 98, 99, 100, 101, 102, 103, 104, 105, 106, 107, 108]) (by decide +kernel))) (od_v 11) (by intro o i; rfl))) (by intro o i; rfl))) (od_v 16)) (bd_one (sd_ret ed_bl)) bd_nil)
  (bd_one (sd_for PassesOwn.never rfl (id_r1 rfl T.z_range (ed_v 2)) (gd_n (i := 20) sc_law.nd rfl (by first | exact Or.inl rfl | exact Or.inr rfl)) (bd_one (sd_if (td_cmp (op_neG (rm64 hr)) k_ne (nomark _) (od_e (ed_ix (rm1 hr) (od_e (ed_ix (rm1 hr) (od_v 12) (od_e (ed_ix (rm1 hr) (od_e (ed_str (l := [97, 98, 99, 100, 101, 102, 103, 104, 105, 106, 107, 108]) (by decide +kernel))) (od_v 11) (by intro o i; rfl))) (by intro o i; rfl))) (od_v 20) (by intro o i; rfl))) (od_e (ed_ix (rm1 hr) (od_e (ed_str (l := [97, 98, 99, 100, 101, 102, 103, 104, 105, 106, 107, 108]) (by decide +kernel))) (od_e (ed_mt1 PySem.F.plainAttrs_list PySem.F.slot_list_index PySem.F.type_list_index (mt_indexD (rm65 hr)) k_indexL (od_v 18) (od_e (ed_ix (rm1 hr) (od_v 19) (od_v 20) (by intro o i; rfl))))) (by intro o i; rfl)))) (bd_one (sd_ret ed_bl)) bd_nil)))))))
  (bd_one (sd_ret ed_bl)))))))))))))))))))))))
theorem c_law (T : Tx K mg) : CF P w K mg base 6 "law" (fs1 f_law) := cf_of T.d_law fun f fd F => okF1 F sc_law (by decide) (dr_law T) law_law
end
/-! ### behind the top -/
theorem all_mk {l : PySem.W.OpenLaw} {w : World} {K : PySem.W.Frag} {h : Heap} {mg : Str → Option Value} {fa : Addr} (X : K.In h) (G : h.Ns mainGlobals mg) (hfa : mg "law" = some (.ref fa))
    {a_digits_of : Addr} {od_digits_of an_digits_of : Option Addr} {sl_digits_of : Array (Option Value)} {oc_digits_of kV_digits_of dc_digits_of pm_digits_of cd_digits_of ct_digits_of : Value} {a_letter_at : Addr} {od_letter_at an_letter_at : Option Addr} {sl_letter_at : Array (Option Value)} {oc_letter_at kV_letter_at dc_letter_at pm_letter_at cd_letter_at ct_letter_at : Value} {a_reached : Addr} {od_reached an_reached : Option Addr} {sl_reached : Array (Option Value)} {oc_reached kV_reached dc_reached pm_reached cd_reached ct_reached : Value} {a_states_at : Addr} {od_states_at an_states_at : Option Addr} {sl_states_at : Array (Option Value)} {oc_states_at kV_states_at dc_states_at pm_states_at cd_states_at ct_states_at : Value} {a_window_behind : Addr} {od_window_behind an_window_behind : Option Addr} {sl_window_behind : Array (Option Value)} {oc_window_behind kV_window_behind dc_window_behind pm_window_behind cd_window_behind ct_window_behind : Value} {a_windows : Addr} {od_windows an_windows : Option Addr} {sl_windows : Array (Option Value)} {oc_windows kV_windows dc_windows pm_windows cd_windows ct_windows : Value} {a_word_of : Addr} {od_word_of an_word_of : Option Addr} {sl_word_of : Array (Option Value)} {oc_word_of kV_word_of dc_word_of pm_word_of cd_word_of ct_word_of : Value} {a_pieces : Addr} {od_pieces an_pieces : Option Addr} {sl_pieces : Array (Option Value)} {oc_pieces kV_pieces dc_pieces pm_pieces cd_pieces ct_pieces : Value} {a_first_piece : Addr} {od_first_piece an_first_piece : Option Addr} {sl_first_piece : Array (Option Value)} {oc_first_piece kV_first_piece dc_first_piece pm_first_piece cd_first_piece ct_first_piece : Value} {a_as_rules : Addr} {od_as_rules an_as_rules : Option Addr} {sl_as_rules : Array (Option Value)} {oc_as_rules kV_as_rules dc_as_rules pm_as_rules cd_as_rules ct_as_rules : Value} {a__law_mixed : Addr} {od__law_mixed an__law_mixed : Option Addr} {sl__law_mixed : Array (Option Value)} {oc__law_mixed kV__law_mixed dc__law_mixed pm__law_mixed cd__law_mixed ct__law_mixed : Value} {a__law_rest : Addr} {od__law_rest an__law_rest : Option Addr} {sl__law_rest : Array (Option Value)} {oc__law_rest kV__law_rest dc__law_rest pm__law_rest cd__law_rest ct__law_rest : Value} {a__law_pool : Addr} {od__law_pool an__law_pool : Option Addr} {sl__law_pool : Array (Option Value)} {oc__law_pool kV__law_pool dc__law_pool pm__law_pool cd__law_pool ct__law_pool : Value} {a__law_next : Addr} {od__law_next an__law_next : Option Addr} {sl__law_next : Array (Option Value)} {oc__law_next kV__law_next dc__law_next pm__law_next cd__law_next ct__law_next : Value} {a__law_draw : Addr} {od__law_draw an__law_draw : Option Addr} {sl__law_draw : Array (Option Value)} {oc__law_draw kV__law_draw dc__law_draw pm__law_draw cd__law_draw ct__law_draw : Value} {a__law_pick : Addr} {od__law_pick an__law_pick : Option Addr} {sl__law_pick : Array (Option Value)} {oc__law_pick kV__law_pick dc__law_pick pm__law_pick cd__law_pick ct__law_pick : Value} {a__law_automaton : Addr} {od__law_automaton an__law_automaton : Option Addr} {sl__law_automaton : Array (Option Value)} {oc__law_automaton kV__law_automaton dc__law_automaton pm__law_automaton cd__law_automaton ct__law_automaton : Value} {a__law_digits : Addr} {od__law_digits an__law_digits : Option Addr} {sl__law_digits : Array (Option Value)} {oc__law_digits kV__law_digits dc__law_digits pm__law_digits cd__law_digits ct__law_digits : Value} {a__law_letter : Addr} {od__law_letter an__law_letter : Option Addr} {sl__law_letter : Array (Option Value)} {oc__law_letter kV__law_letter dc__law_letter pm__law_letter cd__law_letter ct__law_letter : Value} {a__law_row : Addr} {od__law_row an__law_row : Option Addr} {sl__law_row : Array (Option Value)} {oc__law_row kV__law_row dc__law_row pm__law_row cd__law_row ct__law_row : Value} {a__law_reached : Addr} {od__law_reached an__law_reached : Option Addr} {sl__law_reached : Array (Option Value)} {oc__law_reached kV__law_reached dc__law_reached pm__law_reached cd__law_reached ct__law_reached : Value} {a_law : Addr} {od_law an_law : Option Addr} {sl_law : Array (Option Value)} {oc_law kV_law dc_law pm_law cd_law ct_law : Value}
    (m_digits_of : PySem.W.nsIn K mainGlobals "digits_of" = some (some (.ref a_digits_of)))
    (l_digits_of : K.lookup a_digits_of = some ⟨oc_digits_of, od_digits_of, .func (PySem.W.fnOf "digits_of" "digits_of" (defArgs s_digits_of) (defBody s_digits_of) (defScope s_digits_of) .none kV_digits_of dc_digits_of pm_digits_of an_digits_of cd_digits_of ct_digits_of), sl_digits_of⟩)
    (c_digits_of : PySem.W.codeIn K cd_digits_of "digits_of" = true) (k_digits_of : PySem.W.keepIn K (.ref a_digits_of) = true)
    (m_letter_at : PySem.W.nsIn K mainGlobals "letter_at" = some (some (.ref a_letter_at)))
    (l_letter_at : K.lookup a_letter_at = some ⟨oc_letter_at, od_letter_at, .func (PySem.W.fnOf "letter_at" "letter_at" (defArgs s_letter_at) (defBody s_letter_at) (defScope s_letter_at) .none kV_letter_at dc_letter_at pm_letter_at an_letter_at cd_letter_at ct_letter_at), sl_letter_at⟩)
    (c_letter_at : PySem.W.codeIn K cd_letter_at "letter_at" = true) (k_letter_at : PySem.W.keepIn K (.ref a_letter_at) = true)
    (m_reached : PySem.W.nsIn K mainGlobals "reached" = some (some (.ref a_reached)))
    (l_reached : K.lookup a_reached = some ⟨oc_reached, od_reached, .func (PySem.W.fnOf "reached" "reached" (defArgs s_reached) (defBody s_reached) (defScope s_reached) .none kV_reached dc_reached pm_reached an_reached cd_reached ct_reached), sl_reached⟩)
    (c_reached : PySem.W.codeIn K cd_reached "reached" = true) (k_reached : PySem.W.keepIn K (.ref a_reached) = true)
    (m_states_at : PySem.W.nsIn K mainGlobals "states_at" = some (some (.ref a_states_at)))
    (l_states_at : K.lookup a_states_at = some ⟨oc_states_at, od_states_at, .func (PySem.W.fnOf "states_at" "states_at" (defArgs s_states_at) (defBody s_states_at) (defScope s_states_at) .none kV_states_at dc_states_at pm_states_at an_states_at cd_states_at ct_states_at), sl_states_at⟩)
    (c_states_at : PySem.W.codeIn K cd_states_at "states_at" = true) (k_states_at : PySem.W.keepIn K (.ref a_states_at) = true)
    (m_window_behind : PySem.W.nsIn K mainGlobals "window_behind" = some (some (.ref a_window_behind)))
    (l_window_behind : K.lookup a_window_behind = some ⟨oc_window_behind, od_window_behind, .func (PySem.W.fnOf "window_behind" "window_behind" (defArgs s_window_behind) (defBody s_window_behind) (defScope s_window_behind) .none kV_window_behind dc_window_behind pm_window_behind an_window_behind cd_window_behind ct_window_behind), sl_window_behind⟩)
    (c_window_behind : PySem.W.codeIn K cd_window_behind "window_behind" = true) (k_window_behind : PySem.W.keepIn K (.ref a_window_behind) = true)
    (m_windows : PySem.W.nsIn K mainGlobals "windows" = some (some (.ref a_windows)))
    (l_windows : K.lookup a_windows = some ⟨oc_windows, od_windows, .func (PySem.W.fnOf "windows" "windows" (defArgs s_windows) (defBody s_windows) (defScope s_windows) .none kV_windows dc_windows pm_windows an_windows cd_windows ct_windows), sl_windows⟩)
    (c_windows : PySem.W.codeIn K cd_windows "windows" = true) (k_windows : PySem.W.keepIn K (.ref a_windows) = true)
    (m_word_of : PySem.W.nsIn K mainGlobals "word_of" = some (some (.ref a_word_of)))
    (l_word_of : K.lookup a_word_of = some ⟨oc_word_of, od_word_of, .func (PySem.W.fnOf "word_of" "word_of" (defArgs s_word_of) (defBody s_word_of) (defScope s_word_of) .none kV_word_of dc_word_of pm_word_of an_word_of cd_word_of ct_word_of), sl_word_of⟩)
    (c_word_of : PySem.W.codeIn K cd_word_of "word_of" = true) (k_word_of : PySem.W.keepIn K (.ref a_word_of) = true)
    (m_pieces : PySem.W.nsIn K mainGlobals "pieces" = some (some (.ref a_pieces)))
    (l_pieces : K.lookup a_pieces = some ⟨oc_pieces, od_pieces, .func (PySem.W.fnOf "pieces" "pieces" (defArgs s_pieces) (defBody s_pieces) (defScope s_pieces) .none kV_pieces dc_pieces pm_pieces an_pieces cd_pieces ct_pieces), sl_pieces⟩)
    (c_pieces : PySem.W.codeIn K cd_pieces "pieces" = true) (k_pieces : PySem.W.keepIn K (.ref a_pieces) = true)
    (m_first_piece : PySem.W.nsIn K mainGlobals "first_piece" = some (some (.ref a_first_piece)))
    (l_first_piece : K.lookup a_first_piece = some ⟨oc_first_piece, od_first_piece, .func (PySem.W.fnOf "first_piece" "first_piece" (defArgs s_first_piece) (defBody s_first_piece) (defScope s_first_piece) .none kV_first_piece dc_first_piece pm_first_piece an_first_piece cd_first_piece ct_first_piece), sl_first_piece⟩)
    (c_first_piece : PySem.W.codeIn K cd_first_piece "first_piece" = true) (k_first_piece : PySem.W.keepIn K (.ref a_first_piece) = true)
    (m_as_rules : PySem.W.nsIn K mainGlobals "as_rules" = some (some (.ref a_as_rules)))
    (l_as_rules : K.lookup a_as_rules = some ⟨oc_as_rules, od_as_rules, .func (PySem.W.fnOf "as_rules" "as_rules" (defArgs s_as_rules) (defBody s_as_rules) (defScope s_as_rules) .none kV_as_rules dc_as_rules pm_as_rules an_as_rules cd_as_rules ct_as_rules), sl_as_rules⟩)
    (c_as_rules : PySem.W.codeIn K cd_as_rules "as_rules" = true) (k_as_rules : PySem.W.keepIn K (.ref a_as_rules) = true)
    (m__law_mixed : PySem.W.nsIn K mainGlobals "_law_mixed" = some (some (.ref a__law_mixed)))
    (l__law_mixed : K.lookup a__law_mixed = some ⟨oc__law_mixed, od__law_mixed, .func (PySem.W.fnOf "_law_mixed" "_law_mixed" (defArgs s__law_mixed) (defBody s__law_mixed) (defScope s__law_mixed) .none kV__law_mixed dc__law_mixed pm__law_mixed an__law_mixed cd__law_mixed ct__law_mixed), sl__law_mixed⟩)
    (c__law_mixed : PySem.W.codeIn K cd__law_mixed "_law_mixed" = true) (k__law_mixed : PySem.W.keepIn K (.ref a__law_mixed) = true)
    (m__law_rest : PySem.W.nsIn K mainGlobals "_law_rest" = some (some (.ref a__law_rest)))
    (l__law_rest : K.lookup a__law_rest = some ⟨oc__law_rest, od__law_rest, .func (PySem.W.fnOf "_law_rest" "_law_rest" (defArgs s__law_rest) (defBody s__law_rest) (defScope s__law_rest) .none kV__law_rest dc__law_rest pm__law_rest an__law_rest cd__law_rest ct__law_rest), sl__law_rest⟩)
    (c__law_rest : PySem.W.codeIn K cd__law_rest "_law_rest" = true) (k__law_rest : PySem.W.keepIn K (.ref a__law_rest) = true)
    (m__law_pool : PySem.W.nsIn K mainGlobals "_law_pool" = some (some (.ref a__law_pool)))
    (l__law_pool : K.lookup a__law_pool = some ⟨oc__law_pool, od__law_pool, .func (PySem.W.fnOf "_law_pool" "_law_pool" (defArgs s__law_pool) (defBody s__law_pool) (defScope s__law_pool) .none kV__law_pool dc__law_pool pm__law_pool an__law_pool cd__law_pool ct__law_pool), sl__law_pool⟩)
    (c__law_pool : PySem.W.codeIn K cd__law_pool "_law_pool" = true) (k__law_pool : PySem.W.keepIn K (.ref a__law_pool) = true)
    (m__law_next : PySem.W.nsIn K mainGlobals "_law_next" = some (some (.ref a__law_next)))
    (l__law_next : K.lookup a__law_next = some ⟨oc__law_next, od__law_next, .func (PySem.W.fnOf "_law_next" "_law_next" (defArgs s__law_next) (defBody s__law_next) (defScope s__law_next) .none kV__law_next dc__law_next pm__law_next an__law_next cd__law_next ct__law_next), sl__law_next⟩)
    (c__law_next : PySem.W.codeIn K cd__law_next "_law_next" = true) (k__law_next : PySem.W.keepIn K (.ref a__law_next) = true)
    (m__law_draw : PySem.W.nsIn K mainGlobals "_law_draw" = some (some (.ref a__law_draw)))
    (l__law_draw : K.lookup a__law_draw = some ⟨oc__law_draw, od__law_draw, .func (PySem.W.fnOf "_law_draw" "_law_draw" (defArgs s__law_draw) (defBody s__law_draw) (defScope s__law_draw) .none kV__law_draw dc__law_draw pm__law_draw an__law_draw cd__law_draw ct__law_draw), sl__law_draw⟩)
    (c__law_draw : PySem.W.codeIn K cd__law_draw "_law_draw" = true) (k__law_draw : PySem.W.keepIn K (.ref a__law_draw) = true)
    (m__law_pick : PySem.W.nsIn K mainGlobals "_law_pick" = some (some (.ref a__law_pick)))
    (l__law_pick : K.lookup a__law_pick = some ⟨oc__law_pick, od__law_pick, .func (PySem.W.fnOf "_law_pick" "_law_pick" (defArgs s__law_pick) (defBody s__law_pick) (defScope s__law_pick) .none kV__law_pick dc__law_pick pm__law_pick an__law_pick cd__law_pick ct__law_pick), sl__law_pick⟩)
    (c__law_pick : PySem.W.codeIn K cd__law_pick "_law_pick" = true) (k__law_pick : PySem.W.keepIn K (.ref a__law_pick) = true)
    (m__law_automaton : PySem.W.nsIn K mainGlobals "_law_automaton" = some (some (.ref a__law_automaton)))
    (l__law_automaton : K.lookup a__law_automaton = some ⟨oc__law_automaton, od__law_automaton, .func (PySem.W.fnOf "_law_automaton" "_law_automaton" (defArgs s__law_automaton) (defBody s__law_automaton) (defScope s__law_automaton) .none kV__law_automaton dc__law_automaton pm__law_automaton an__law_automaton cd__law_automaton ct__law_automaton), sl__law_automaton⟩)
    (c__law_automaton : PySem.W.codeIn K cd__law_automaton "_law_automaton" = true) (k__law_automaton : PySem.W.keepIn K (.ref a__law_automaton) = true)
    (m__law_digits : PySem.W.nsIn K mainGlobals "_law_digits" = some (some (.ref a__law_digits)))
    (l__law_digits : K.lookup a__law_digits = some ⟨oc__law_digits, od__law_digits, .func (PySem.W.fnOf "_law_digits" "_law_digits" (defArgs s__law_digits) (defBody s__law_digits) (defScope s__law_digits) .none kV__law_digits dc__law_digits pm__law_digits an__law_digits cd__law_digits ct__law_digits), sl__law_digits⟩)
    (c__law_digits : PySem.W.codeIn K cd__law_digits "_law_digits" = true) (k__law_digits : PySem.W.keepIn K (.ref a__law_digits) = true)
    (m__law_letter : PySem.W.nsIn K mainGlobals "_law_letter" = some (some (.ref a__law_letter)))
    (l__law_letter : K.lookup a__law_letter = some ⟨oc__law_letter, od__law_letter, .func (PySem.W.fnOf "_law_letter" "_law_letter" (defArgs s__law_letter) (defBody s__law_letter) (defScope s__law_letter) .none kV__law_letter dc__law_letter pm__law_letter an__law_letter cd__law_letter ct__law_letter), sl__law_letter⟩)
    (c__law_letter : PySem.W.codeIn K cd__law_letter "_law_letter" = true) (k__law_letter : PySem.W.keepIn K (.ref a__law_letter) = true)
    (m__law_row : PySem.W.nsIn K mainGlobals "_law_row" = some (some (.ref a__law_row)))
    (l__law_row : K.lookup a__law_row = some ⟨oc__law_row, od__law_row, .func (PySem.W.fnOf "_law_row" "_law_row" (defArgs s__law_row) (defBody s__law_row) (defScope s__law_row) .none kV__law_row dc__law_row pm__law_row an__law_row cd__law_row ct__law_row), sl__law_row⟩)
    (c__law_row : PySem.W.codeIn K cd__law_row "_law_row" = true) (k__law_row : PySem.W.keepIn K (.ref a__law_row) = true)
    (m__law_reached : PySem.W.nsIn K mainGlobals "_law_reached" = some (some (.ref a__law_reached)))
    (l__law_reached : K.lookup a__law_reached = some ⟨oc__law_reached, od__law_reached, .func (PySem.W.fnOf "_law_reached" "_law_reached" (defArgs s__law_reached) (defBody s__law_reached) (defScope s__law_reached) .none kV__law_reached dc__law_reached pm__law_reached an__law_reached cd__law_reached ct__law_reached), sl__law_reached⟩)
    (c__law_reached : PySem.W.codeIn K cd__law_reached "_law_reached" = true) (k__law_reached : PySem.W.keepIn K (.ref a__law_reached) = true)
    (m_law : PySem.W.nsIn K mainGlobals "law" = some (some (.ref a_law)))
    (l_law : K.lookup a_law = some ⟨oc_law, od_law, .func (PySem.W.fnOf "law" "law" (defArgs s_law) (defBody s_law) (defScope s_law) .none kV_law dc_law pm_law an_law cd_law ct_law), sl_law⟩)
    (c_law : PySem.W.codeIn K cd_law "law" = true) (k_law : PySem.W.keepIn K (.ref a_law) = true)
    (z_enumerate : PySem.W.nsIn K mainGlobals "enumerate" = some none)
    (z_int : PySem.W.nsIn K mainGlobals "int" = some none)
    (z_len : PySem.W.nsIn K mainGlobals "len" = some none)
    (z_min : PySem.W.nsIn K mainGlobals "min" = some none)
    (z_range : PySem.W.nsIn K mainGlobals "range" = some none)
    (z_set : PySem.W.nsIn K mainGlobals "set" = some none)
    (z_sorted : PySem.W.nsIn K mainGlobals "sorted" = some none)
    (z_str : PySem.W.nsIn K mainGlobals "str" = some none)
    (z_tuple : PySem.W.nsIn K mainGlobals "tuple" = some none) :
    ∃ fd : FuncData, (∀ (s : Shared) (v : Value), BindsTo s fd ⟨[v], []⟩ [("script", v)]) ∧ ∀ base : Heap, K.In base → base.Ns mainGlobals mg → FnOk l.prog w K mg base CX0 6 fa fd ["script"] (spLaw K) := by
  have e := hfa.symm.trans (PySem.W.mg_of X G m_law)
  cases e
  have F_digits_of := fun_mk (st := s_digits_of) l_digits_of c_digits_of k_digits_of
  have D_digits_of : Df K mg "digits_of" s_digits_of ["b", "n"] := .mk' F_digits_of (PySem.W.mg_of X G m_digits_of) (F_digits_of.binds (ps := ["b", "n"]) fun _ _ _ _ _ _ us hl => match us, hl with | [_, _], _ => rfl)
  have F_letter_at := fun_mk (st := s_letter_at) l_letter_at c_letter_at k_letter_at
  have D_letter_at : Df K mg "letter_at" s_letter_at ["b", "automaton", "n"] := .mk' F_letter_at (PySem.W.mg_of X G m_letter_at) (F_letter_at.binds (ps := ["b", "automaton", "n"]) fun _ _ _ _ _ _ us hl => match us, hl with | [_, _, _], _ => rfl)
  have F_reached := fun_mk (st := s_reached) l_reached c_reached k_reached
  have D_reached : Df K mg "reached" s_reached ["automaton"] := .mk' F_reached (PySem.W.mg_of X G m_reached) (F_reached.binds (ps := ["automaton"]) fun _ _ _ _ _ _ us hl => match us, hl with | [_], _ => rfl)
  have F_states_at := fun_mk (st := s_states_at) l_states_at c_states_at k_states_at
  have D_states_at : Df K mg "states_at" s_states_at ["b", "automaton", "n", "many"] := .mk' F_states_at (PySem.W.mg_of X G m_states_at) (F_states_at.binds (ps := ["b", "automaton", "n", "many"]) fun _ _ _ _ _ _ us hl => match us, hl with | [_, _, _, _], _ => rfl)
  have F_window_behind := fun_mk (st := s_window_behind) l_window_behind c_window_behind k_window_behind
  have D_window_behind : Df K mg "window_behind" s_window_behind ["b", "automaton", "window", "digit"] := .mk' F_window_behind (PySem.W.mg_of X G m_window_behind) (F_window_behind.binds (ps := ["b", "automaton", "window", "digit"]) fun _ _ _ _ _ _ us hl => match us, hl with | [_, _, _, _], _ => rfl)
  have F_windows := fun_mk (st := s_windows) l_windows c_windows k_windows
  have D_windows : Df K mg "windows" s_windows ["b", "automaton", "many"] := .mk' F_windows (PySem.W.mg_of X G m_windows) (F_windows.binds (ps := ["b", "automaton", "many"]) fun _ _ _ _ _ _ us hl => match us, hl with | [_, _, _], _ => rfl)
  have F_word_of := fun_mk (st := s_word_of) l_word_of c_word_of k_word_of
  have D_word_of : Df K mg "word_of" s_word_of ["automaton", "window"] := .mk' F_word_of (PySem.W.mg_of X G m_word_of) (F_word_of.binds (ps := ["automaton", "window"]) fun _ _ _ _ _ _ us hl => match us, hl with | [_, _], _ => rfl)
  have F_pieces := fun_mk (st := s_pieces) l_pieces c_pieces k_pieces
  have D_pieces : Df K mg "pieces" s_pieces ["b", "automaton", "many"] := .mk' F_pieces (PySem.W.mg_of X G m_pieces) (F_pieces.binds (ps := ["b", "automaton", "many"]) fun _ _ _ _ _ _ us hl => match us, hl with | [_, _, _], _ => rfl)
  have F_first_piece := fun_mk (st := s_first_piece) l_first_piece c_first_piece k_first_piece
  have D_first_piece : Df K mg "first_piece" s_first_piece ["b", "automaton", "word"] := .mk' F_first_piece (PySem.W.mg_of X G m_first_piece) (F_first_piece.binds (ps := ["b", "automaton", "word"]) fun _ _ _ _ _ _ us hl => match us, hl with | [_, _, _], _ => rfl)
  have F_as_rules := fun_mk (st := s_as_rules) l_as_rules c_as_rules k_as_rules
  have D_as_rules : Df K mg "as_rules" s_as_rules ["automaton"] := .mk' F_as_rules (PySem.W.mg_of X G m_as_rules) (F_as_rules.binds (ps := ["automaton"]) fun _ _ _ _ _ _ us hl => match us, hl with | [_], _ => rfl)
  have F__law_mixed := fun_mk (st := s__law_mixed) l__law_mixed c__law_mixed k__law_mixed
  have D__law_mixed : Df K mg "_law_mixed" s__law_mixed ["number", "place"] := .mk' F__law_mixed (PySem.W.mg_of X G m__law_mixed) (F__law_mixed.binds (ps := ["number", "place"]) fun _ _ _ _ _ _ us hl => match us, hl with | [_, _], _ => rfl)
  have F__law_rest := fun_mk (st := s__law_rest) l__law_rest c__law_rest k__law_rest
  have D__law_rest : Df K mg "_law_rest" s__law_rest ["script", "place", "fills"] := .mk' F__law_rest (PySem.W.mg_of X G m__law_rest) (F__law_rest.binds (ps := ["script", "place", "fills"]) fun _ _ _ _ _ _ us hl => match us, hl with | [_, _, _], _ => rfl)
  have F__law_pool := fun_mk (st := s__law_pool) l__law_pool c__law_pool k__law_pool
  have D__law_pool : Df K mg "_law_pool" s__law_pool ["script"] := .mk' F__law_pool (PySem.W.mg_of X G m__law_pool) (F__law_pool.binds (ps := ["script"]) fun _ _ _ _ _ _ us hl => match us, hl with | [_], _ => rfl)
  have F__law_next := fun_mk (st := s__law_next) l__law_next c__law_next k__law_next
  have D__law_next : Df K mg "_law_next" s__law_next ["pool"] := .mk' F__law_next (PySem.W.mg_of X G m__law_next) (F__law_next.binds (ps := ["pool"]) fun _ _ _ _ _ _ us hl => match us, hl with | [_], _ => rfl)
  have F__law_draw := fun_mk (st := s__law_draw) l__law_draw c__law_draw k__law_draw
  have D__law_draw : Df K mg "_law_draw" s__law_draw ["pool", "limit"] := .mk' F__law_draw (PySem.W.mg_of X G m__law_draw) (F__law_draw.binds (ps := ["pool", "limit"]) fun _ _ _ _ _ _ us hl => match us, hl with | [_, _], _ => rfl)
  have F__law_pick := fun_mk (st := s__law_pick) l__law_pick c__law_pick k__law_pick
  have D__law_pick : Df K mg "_law_pick" s__law_pick ["pool", "options"] := .mk' F__law_pick (PySem.W.mg_of X G m__law_pick) (F__law_pick.binds (ps := ["pool", "options"]) fun _ _ _ _ _ _ us hl => match us, hl with | [_, _], _ => rfl)
  have F__law_automaton := fun_mk (st := s__law_automaton) l__law_automaton c__law_automaton k__law_automaton
  have D__law_automaton : Df K mg "_law_automaton" s__law_automaton ["pool", "b", "many"] := .mk' F__law_automaton (PySem.W.mg_of X G m__law_automaton) (F__law_automaton.binds (ps := ["pool", "b", "many"]) fun _ _ _ _ _ _ us hl => match us, hl with | [_, _, _], _ => rfl)
  have F__law_digits := fun_mk (st := s__law_digits) l__law_digits c__law_digits k__law_digits
  have D__law_digits : Df K mg "_law_digits" s__law_digits ["b", "n"] := .mk' F__law_digits (PySem.W.mg_of X G m__law_digits) (F__law_digits.binds (ps := ["b", "n"]) fun _ _ _ _ _ _ us hl => match us, hl with | [_, _], _ => rfl)
  have F__law_letter := fun_mk (st := s__law_letter) l__law_letter c__law_letter k__law_letter
  have D__law_letter : Df K mg "_law_letter" s__law_letter ["b", "automaton", "n"] := .mk' F__law_letter (PySem.W.mg_of X G m__law_letter) (F__law_letter.binds (ps := ["b", "automaton", "n"]) fun _ _ _ _ _ _ us hl => match us, hl with | [_, _, _], _ => rfl)
  have F__law_row := fun_mk (st := s__law_row) l__law_row c__law_row k__law_row
  have D__law_row : Df K mg "_law_row" s__law_row ["b", "automaton", "n"] := .mk' F__law_row (PySem.W.mg_of X G m__law_row) (F__law_row.binds (ps := ["b", "automaton", "n"]) fun _ _ _ _ _ _ us hl => match us, hl with | [_, _, _], _ => rfl)
  have F__law_reached := fun_mk (st := s__law_reached) l__law_reached c__law_reached k__law_reached
  have D__law_reached : Df K mg "_law_reached" s__law_reached ["automaton"] := .mk' F__law_reached (PySem.W.mg_of X G m__law_reached) (F__law_reached.binds (ps := ["automaton"]) fun _ _ _ _ _ _ us hl => match us, hl with | [_], _ => rfl)
  have F_law := fun_mk (st := s_law) l_law c_law k_law
  have D_law : Df K mg "law" s_law ["script"] := .mk' F_law (PySem.W.mg_of X G m_law) (F_law.binds (ps := ["script"]) fun _ _ _ _ _ _ us hl => match us, hl with | [_], _ => rfl)
  have T : Tx K mg := ⟨PySem.W.mg_none_of X G z_enumerate, PySem.W.mg_none_of X G z_int, PySem.W.mg_none_of X G z_len, PySem.W.mg_none_of X G z_min, PySem.W.mg_none_of X G z_range, PySem.W.mg_none_of X G z_set, PySem.W.mg_none_of X G z_sorted, PySem.W.mg_none_of X G z_str, PySem.W.mg_none_of X G z_tuple, D_digits_of, D_letter_at, D_reached, D_states_at, D_window_behind, D_windows, D_word_of, D_pieces, D_first_piece, D_as_rules, D__law_mixed, D__law_rest, D__law_pool, D__law_next, D__law_draw, D__law_pick, D__law_automaton, D__law_digits, D__law_letter, D__law_row, D__law_reached, D_law⟩
  exact ⟨_, fun s v => .of_eq rfl, fun base _ _ => (okF1 F_law sc_law (by decide) (dr_law T) law_law).imp spLaw_of⟩
theorem walk {l : PySem.W.OpenLaw} {q : Program} {loose : List Str} {XP : (Str → Option Value) → Heap → Prop} {YP : World → Heap → Prop} {d : DefRec} {K : Params → PySem.W.Frag} (hn : l.most = some 63) (hdf : d.params.defaults = [])
    (hY : ∀ (w : World) (h : Heap), YP w h → (K w.params).In h)
    (F : ∀ (w : World) (mg : Str → Option Value) (fa : Addr) (h : Heap), (K w.params).In h → h.Ns mainGlobals mg → mg d.name = some (.ref fa) →
      ∃ fd : FuncData, (∀ (s : Shared) (u : Value), BindsTo s fd ⟨[u], []⟩ [("script", u)]) ∧ ∀ base : Heap, (K w.params).In base → base.Ns mainGlobals mg → FnOk l.prog w (K w.params) mg base CX0 6 fa fd ["script"] (spLaw (K w.params))) :
    PySem.W.WalkO q loose XP YP l.row.toRowW d [] (fun f vs => PySem.call f vs) :=
  L2.walk_of (n := 63) (k := 6) (x := "script") (CX := fun _ => CX0) (sp := fun w => spLaw (K w.params)) hn (by decide) hdf ⟨rfl, by decide, by decide⟩ hY F (fun _ _ a ns hl _ hS => ⟨a, ns, rfl, hS, hl, fun _ => rfl⟩) fun _ _ _ _ _ z => z
end PW.K57

set_option Elab.async false
open PySem PySem.W PyProof.Rows in
set_option maxRecDepth 100000 in
set_option maxHeartbeats 0 in
theorem PySem.Challenge.cw_growth_k57_whole_pieces_of_automatic_row_holds : PySem.Challenge.rw_growth_k57_whole_pieces_of_automatic_row.Holds := by
  w_on; o_law; k_head; (case hw => w_witness2)
  k_fill
  refine PW.K57.walk (l := PySem.Challenge.rw_growth_k57_whole_pieces_of_automatic_row) rfl rfl (fun w h Y => PySem.W.kIn_of Y) ?F
  case F =>
    intro w mg fa h KX G hmg
    refine' PW.K57.all_mk KX G hmg ?m_digits_of ?l_digits_of ?c_digits_of ?k_digits_of ?m_letter_at ?l_letter_at ?c_letter_at ?k_letter_at ?m_reached ?l_reached ?c_reached ?k_reached ?m_states_at ?l_states_at ?c_states_at ?k_states_at ?m_window_behind ?l_window_behind ?c_window_behind ?k_window_behind ?m_windows ?l_windows ?c_windows ?k_windows ?m_word_of ?l_word_of ?c_word_of ?k_word_of ?m_pieces ?l_pieces ?c_pieces ?k_pieces ?m_first_piece ?l_first_piece ?c_first_piece ?k_first_piece ?m_as_rules ?l_as_rules ?c_as_rules ?k_as_rules ?m__law_mixed ?l__law_mixed ?c__law_mixed ?k__law_mixed ?m__law_rest ?l__law_rest ?c__law_rest ?k__law_rest ?m__law_pool ?l__law_pool ?c__law_pool ?k__law_pool ?m__law_next ?l__law_next ?c__law_next ?k__law_next ?m__law_draw ?l__law_draw ?c__law_draw ?k__law_draw ?m__law_pick ?l__law_pick ?c__law_pick ?k__law_pick ?m__law_automaton ?l__law_automaton ?c__law_automaton ?k__law_automaton ?m__law_digits ?l__law_digits ?c__law_digits ?k__law_digits ?m__law_letter ?l__law_letter ?c__law_letter ?k__law_letter ?m__law_row ?l__law_row ?c__law_row ?k__law_row ?m__law_reached ?l__law_reached ?c__law_reached ?k__law_reached ?m_law ?l_law ?c_law ?k_law ?z_enumerate ?z_int ?z_len ?z_min ?z_range ?z_set ?z_sorted ?z_str ?z_tuple
    (case m_digits_of => k_is)
    (case l_digits_of => k_is)
    (case c_digits_of => k_is)
    (case k_digits_of => k_is)
    (case m_letter_at => k_is)
    (case l_letter_at => k_is)
    (case c_letter_at => k_is)
    (case k_letter_at => k_is)
    (case m_reached => k_is)
    (case l_reached => k_is)
    (case c_reached => k_is)
    (case k_reached => k_is)
    (case m_states_at => k_is)
    (case l_states_at => k_is)
    (case c_states_at => k_is)
    (case k_states_at => k_is)
    (case m_window_behind => k_is)
    (case l_window_behind => k_is)
    (case c_window_behind => k_is)
    (case k_window_behind => k_is)
    (case m_windows => k_is)
    (case l_windows => k_is)
    (case c_windows => k_is)
    (case k_windows => k_is)
    (case m_word_of => k_is)
    (case l_word_of => k_is)
    (case c_word_of => k_is)
    (case k_word_of => k_is)
    (case m_pieces => k_is)
    (case l_pieces => k_is)
    (case c_pieces => k_is)
    (case k_pieces => k_is)
    (case m_first_piece => k_is)
    (case l_first_piece => k_is)
    (case c_first_piece => k_is)
    (case k_first_piece => k_is)
    (case m_as_rules => k_is)
    (case l_as_rules => k_is)
    (case c_as_rules => k_is)
    (case k_as_rules => k_is)
    (case m__law_mixed => k_is)
    (case l__law_mixed => k_is)
    (case c__law_mixed => k_is)
    (case k__law_mixed => k_is)
    (case m__law_rest => k_is)
    (case l__law_rest => k_is)
    (case c__law_rest => k_is)
    (case k__law_rest => k_is)
    (case m__law_pool => k_is)
    (case l__law_pool => k_is)
    (case c__law_pool => k_is)
    (case k__law_pool => k_is)
    (case m__law_next => k_is)
    (case l__law_next => k_is)
    (case c__law_next => k_is)
    (case k__law_next => k_is)
    (case m__law_draw => k_is)
    (case l__law_draw => k_is)
    (case c__law_draw => k_is)
    (case k__law_draw => k_is)
    (case m__law_pick => k_is)
    (case l__law_pick => k_is)
    (case c__law_pick => k_is)
    (case k__law_pick => k_is)
    (case m__law_automaton => k_is)
    (case l__law_automaton => k_is)
    (case c__law_automaton => k_is)
    (case k__law_automaton => k_is)
    (case m__law_digits => k_is)
    (case l__law_digits => k_is)
    (case c__law_digits => k_is)
    (case k__law_digits => k_is)
    (case m__law_letter => k_is)
    (case l__law_letter => k_is)
    (case c__law_letter => k_is)
    (case k__law_letter => k_is)
    (case m__law_row => k_is)
    (case l__law_row => k_is)
    (case c__law_row => k_is)
    (case k__law_row => k_is)
    (case m__law_reached => k_is)
    (case l__law_reached => k_is)
    (case c__law_reached => k_is)
    (case k__law_reached => k_is)
    (case m_law => k_is)
    (case l_law => k_is)
    (case c_law => k_is)
    (case k_law => k_is)
    (case z_enumerate => k_is)
    (case z_int => k_is)
    (case z_len => k_is)
    (case z_min => k_is)
    (case z_range => k_is)
    (case z_set => k_is)
    (case z_sorted => k_is)
    (case z_str => k_is)
    (case z_tuple => k_is)
