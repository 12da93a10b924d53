import PyProof.Rows.All
import Wide.All
import OpenK.AllK
import Wide.FinOn
import HandS.ForMost
import HandS.Deep
import HandS.More
import HandS.TupAny
import HandS.Wide
import HandS.Style
import HandS.Steps
import HandS.TupLen
import HandS.SortInts
import HandS.Iter
import HandS.IsInst
import KE.DataCmp
import KE.SortData
import PyProof.StrBlock2
import HandS.Set
import HandS.SetTxt0
import HandS.Dict
import HandS.Text
import KE.KDictList
import HandS.DictComp
import HandS.Replace
import HandS.RaiseMore
import KE.KDictDisplayH
import PyProof.CollectStr
import HandS.SetKeys
import PySem.Challenge.RW_growth_k68_whole_words_that_grow_with_tr
set_option Elab.async false
set_option linter.all false
set_option autoImplicit false
set_option maxRecDepth 100000
set_option maxHeartbeats 4000000
/-! A layer over the hand layer: readings over plain data, no heap. -/
namespace PW
open PySem PySem.Spec PyProof.Rows L2

/-! ### plain data -/
inductive D where
  | non | bl (b : Bool) | int (i : Int) | str (s : List Nat) | tup (l : List D) | lst (l : List D)
  /-- a dict: of ints and texts (false), of tuples of such (true) -/
  | dct (t : Bool) (l : List (D × D))
  /-- the script -/
  | scr (ns : List Int)

abbrev mkS (l : List Nat) : Str := ⟨l.toArray⟩
theorem mkS_inj {a b : List Nat} (h : mkS a = mkS b) : a = b := by
  have := congrArg (fun s : Str => s.cps.toList) h
  simpa using this
theorem mkS_of (x : Str) : mkS x.cps.toList = x := by cases x; simp [mkS]
def kD : Key → D
  | .inl i => .int i
  | .inr x => .str x.cps.toList

mutual
/-- as the library's data -/
def D.py : D → PyData
  | .non => .none
  | .bl b => .bool b
  | .int i => .int i
  | .str s => .str (mkS s)
  | .tup l => .tuple (D.pys l)
  | .lst l => .list (D.pys l)
  | .dct _ _ => .dict []
  | .scr _ => .dict []
def D.pys : List D → List PyData
  | [] => []
  | d :: l => D.py d :: D.pys l
end
theorem D.pys_map : ∀ l : List D, D.pys l = l.map D.py
  | [] => by simp [D.pys]
  | d :: l => by simp [D.pys, D.pys_map l]

/-! ### how data stands in the heap -/
mutual
inductive Rep (K : PySem.W.Frag) (F : Hp) : V → D → Prop
  | non : Rep K F .non .non
  | bl (b : Bool) : Rep K F (.bl b) (.bl b)
  | int (i : Int) : Rep K F (.int i) (.int i)
  | str (l : List Nat) : Rep K F (.str (mkS l)) (.str l)
  | tup {a : Addr} {vs : List V} {ds : List D} : F a = some (.tup vs) → RepL K F vs ds → Rep K F (.ref a) (.tup ds)
  | lst {a : Addr} {vs : List V} {ds : List D} : F a = some (.lst vs) → RepL K F vs ds → Rep K F (.ref a) (.lst ds)
  | dK {a : Addr} {kv : List (Key × V)} {kd : List (D × D)} : Rd F a (.dK kv) → RepK K F kv kd → Rep K F (.ref a) (.dct false kd)
  | dT {a : Addr} {kv : List (List Key × V)} {kd : List (D × D)} : Rd F a (.dT kv) → RepT K F kv kd → Rep K F (.ref a) (.dct true kd)
  | scr {a : Addr} {ns : List Int} : SqL K F a (ns.map V.int) → Rep K F (.ref a) (.scr ns)
inductive RepL (K : PySem.W.Frag) (F : Hp) : List V → List D → Prop
  | nil : RepL K F [] []
  | cons {v : V} {vs : List V} {d : D} {ds : List D} : Rep K F v d → RepL K F vs ds → RepL K F (v :: vs) (d :: ds)
inductive RepK (K : PySem.W.Frag) (F : Hp) : List (Key × V) → List (D × D) → Prop
  | nil : RepK K F [] []
  | cons {k : Key} {v : V} {kv : List (Key × V)} {d : D} {kd : List (D × D)} : Rep K F v d → RepK K F kv kd → RepK K F ((k, v) :: kv) ((kD k, d) :: kd)
inductive RepT (K : PySem.W.Frag) (F : Hp) : List (List Key × V) → List (D × D) → Prop
  | nil : RepT K F [] []
  | cons {k : List Key} {v : V} {kv : List (List Key × V)} {d : D} {kd : List (D × D)} : Rep K F v d → RepT K F kv kd → RepT K F ((k, v) :: kv) ((.tup (k.map kD), d) :: kd)
end

def isD : HO → Bool
  | .dK _ => true | .dT _ => true | _ => false
/-- more is known; a dict may have been locked -/
def Sub (F H : Hp) : Prop := ∀ a u, F a = some u → H a = some u ∨ (isD u = true ∧ ∃ o, H a = some (.frz o u))
theorem Sub.refl (F : Hp) : Sub F F := fun _ _ h => .inl h
theorem Sub.trans {F G H : Hp} (a : Sub F G) (b : Sub G H) : Sub F H := fun p u e => by
  rcases a p u e with h | ⟨m, o, h⟩
  · exact b p u h
  · rcases b p _ h with h' | ⟨m', _⟩
    · exact .inr ⟨m, o, h'⟩
    · cases m'
theorem Sub.exact {F H : Hp} (s : Sub F H) {a : Addr} {u : HO} (h : F a = some u) (m : isD u = false) : H a = some u := by
  rcases s a u h with h | ⟨m', _⟩
  · exact h
  · rw [m] at m'; cases m'
theorem Sub.rd {F H : Hp} (s : Sub F H) {a : Addr} {u : HO} (h : Rd F a u) : Rd H a u := by
  rcases h with h | ⟨o, h⟩
  · rcases s a u h with h | ⟨_, o, h⟩
    · exact .inl h
    · exact .inr ⟨o, h⟩
  · exact .inr ⟨o, s.exact h rfl⟩
theorem Sub.sql {K : PySem.W.Frag} {F H : Hp} (s : Sub F H) {a : Addr} {xs : List V} (h : SqL K F a xs) : SqL K H a xs := by
  rcases h with h | h
  · exact .inl (s.rd h)
  · exact .inr h
theorem Sub.tup {F H : Hp} (s : Sub F H) {a : Addr} {xs : List V} (h : F a = some (.tup xs)) : H a = some (.tup xs) := s.exact h rfl
theorem Sub.lst {F H : Hp} (s : Sub F H) {a : Addr} {xs : List V} (h : F a = some (.lst xs)) : H a = some (.lst xs) := s.exact h rfl
theorem Sub.gone {F H : Hp} (s : Sub F H) {a : Addr} (h : H a = none) : F a = none := by
  cases e : F a with
  | none => rfl
  | some u =>
    rcases s a u e with h' | ⟨_, o, h'⟩
    · rw [h] at h'; cases h'
    · rw [h] at h'; cases h'
theorem Sub.upd_new {F : Hp} {p : Addr} (o : HO) (h : F p = none) : Sub F (upd F p o) := fun a u e => .inl (by rw [upd_ne (ne_of_none e h)]; exact e)
theorem Sub.upd_out {F H : Hp} (s : Sub F H) {p : Addr} (o : HO) (h : F p = none) : Sub F (upd H p o) := fun a u e => by
  rw [upd_ne (ne_of_none e h)]
  exact s a u e
theorem Sub.upd_both {F H : Hp} (s : Sub F H) {p : Addr} (o : HO) : Sub (upd F p o) (upd H p o) := fun a u e => by
  by_cases hp : a = p
  · subst hp
    rw [upd_same] at e ⊢
    exact .inl e
  · rw [upd_ne hp] at e ⊢
    exact s a u e
/-- what stands already is known -/
theorem Sub.upd_in {F H : Hp} (s : Sub F H) {p : Addr} {o : HO} (h : H p = some o) : Sub (upd F p o) H := fun a u e => by
  by_cases hp : a = p
  · subst hp
    rw [upd_same] at e
    cases e
    exact .inl h
  · rw [upd_ne hp] at e
    exact s a u e

mutual
theorem Rep.mono {K : PySem.W.Frag} {F H : Hp} (s : Sub F H) : ∀ {v : V} {d : D}, Rep K F v d → Rep K H v d
  | _, _, .non => .non
  | _, _, .bl b => .bl b
  | _, _, .int i => .int i
  | _, _, .str l => .str l
  | _, _, .tup h r => .tup (s.tup h) (RepL.mono s r)
  | _, _, .lst h r => .lst (s.lst h) (RepL.mono s r)
  | _, _, .dK h r => .dK (s.rd h) (RepK.mono s r)
  | _, _, .dT h r => .dT (s.rd h) (RepT.mono s r)
  | _, _, .scr h => .scr (s.sql h)
theorem RepL.mono {K : PySem.W.Frag} {F H : Hp} (s : Sub F H) : ∀ {vs : List V} {ds : List D}, RepL K F vs ds → RepL K H vs ds
  | _, _, .nil => .nil
  | _, _, .cons h r => .cons (Rep.mono s h) (RepL.mono s r)
theorem RepK.mono {K : PySem.W.Frag} {F H : Hp} (s : Sub F H) : ∀ {kv : List (Key × V)} {kd : List (D × D)}, RepK K F kv kd → RepK K H kv kd
  | _, _, .nil => .nil
  | _, _, .cons h r => .cons (Rep.mono s h) (RepK.mono s r)
theorem RepT.mono {K : PySem.W.Frag} {F H : Hp} (s : Sub F H) : ∀ {kv : List (List Key × V)} {kd : List (D × D)}, RepT K F kv kd → RepT K H kv kd
  | _, _, .nil => .nil
  | _, _, .cons h r => .cons (Rep.mono s h) (RepT.mono s r)
end

section
variable {K : PySem.W.Frag} {F H : Hp}
theorem RepL.length : ∀ {vs : List V} {ds : List D}, RepL K F vs ds → vs.length = ds.length
  | _, _, .nil => rfl
  | _, _, .cons _ r => by simp [RepL.length r]
theorem RepL.get : ∀ {vs : List V} {ds : List D} {i : Nat} {d : D}, RepL K F vs ds → ds[i]? = some d → ∃ v, vs[i]? = some v ∧ Rep K F v d
  | _, _, _, _, .nil, e => by simp at e
  | _, _, 0, _, .cons h _, e => by simp at e; subst e; exact ⟨_, rfl, h⟩
  | _, _, i + 1, d, .cons _ r, e => by
    obtain ⟨v, h1, h2⟩ := RepL.get (i := i) (d := d) r (by simpa using e)
    exact ⟨v, by simpa using h1, h2⟩
theorem RepL.getV : ∀ {vs : List V} {ds : List D} {i : Nat} {v : V}, RepL K F vs ds → vs[i]? = some v → ∃ d, ds[i]? = some d ∧ Rep K F v d
  | _, _, _, _, .nil, e => by simp at e
  | _, _, 0, _, .cons h _, e => by simp at e; subst e; exact ⟨_, rfl, h⟩
  | _, _, i + 1, d, .cons _ r, e => by
    obtain ⟨v, h1, h2⟩ := RepL.getV (i := i) (v := d) r (by simpa using e)
    exact ⟨v, by simpa using h1, h2⟩
theorem RepL.append : ∀ {vs ws : List V} {ds es : List D}, RepL K F vs ds → RepL K F ws es → RepL K F (vs ++ ws) (ds ++ es)
  | _, _, _, _, .nil, s => s
  | _, _, _, _, .cons h r, s => .cons h (RepL.append r s)
theorem RepL.take : ∀ {vs : List V} {ds : List D} (n : Nat), RepL K F vs ds → RepL K F (vs.take n) (ds.take n)
  | _, _, 0, _ => .nil
  | _, _, _ + 1, .nil => .nil
  | _, _, n + 1, .cons h r => .cons h (RepL.take n r)
theorem RepL.drop : ∀ {vs : List V} {ds : List D} (n : Nat), RepL K F vs ds → RepL K F (vs.drop n) (ds.drop n)
  | _, _, 0, r => r
  | _, _, _ + 1, .nil => .nil
  | _, _, n + 1, .cons _ r => RepL.drop n r
theorem RepL.set {v : V} {d : D} (h : Rep K F v d) : ∀ {vs : List V} {ds : List D} (n : Nat), RepL K F vs ds → RepL K F (vs.set n v) (ds.set n d)
  | _, _, _, .nil => .nil
  | _, _, 0, .cons _ r => .cons h r
  | _, _, n + 1, .cons h' r => .cons h' (RepL.set h n r)
theorem RepL.reverse {vs : List V} {ds : List D} (h : RepL K F vs ds) : RepL K F vs.reverse ds.reverse := by
  induction vs generalizing ds with
  | nil => cases h; exact .nil
  | cons v vs ih =>
    cases h with
    | cons h r =>
      rw [List.reverse_cons, List.reverse_cons]
      exact (ih r).append (.cons h .nil)
theorem RepL.dropLast : ∀ {vs : List V} {ds : List D}, RepL K F vs ds → RepL K F vs.dropLast ds.dropLast
  | _, _, .nil => .nil
  | _, _, .cons h .nil => .nil
  | _, _, .cons h (.cons h2 r) => .cons h (RepL.dropLast (.cons h2 r))
theorem RepL.eraseIdx : ∀ {vs : List V} {ds : List D} (n : Nat), RepL K F vs ds → RepL K F (vs.eraseIdx n) (ds.eraseIdx n)
  | _, _, _, .nil => .nil
  | _, _, 0, .cons _ r => r
  | _, _, n + 1, .cons h' r => .cons h' (RepL.eraseIdx n r)
theorem RepL.rep {vs : List V} {ds : List D} (h : RepL K F vs ds) : ∀ k : Nat, RepL K F (List.replicate k vs).flatten (List.replicate k ds).flatten
  | 0 => .nil
  | k + 1 => by
    rw [List.replicate_succ, List.replicate_succ, List.flatten_cons, List.flatten_cons]
    exact h.append (h.rep k)
/-- a list of one kind -/
theorem RepL.ints : ∀ {vs : List V} {ns : List Int}, RepL K F vs (ns.map D.int) → vs = ns.map V.int
  | [], [], _ => rfl
  | [], _ :: _, h => by cases h
  | _ :: _, [], h => by cases h
  | _ :: _, _ :: _, h => by
    cases h with
    | cons h r => cases h; rw [List.map_cons, RepL.ints r]
theorem RepL.bools : ∀ {vs : List V} {ns : List Bool}, RepL K F vs (ns.map D.bl) → vs = ns.map V.bl
  | [], [], _ => rfl
  | [], _ :: _, h => by cases h
  | _ :: _, [], h => by cases h
  | _ :: _, _ :: _, h => by
    cases h with
    | cons h r => cases h; rw [List.map_cons, RepL.bools r]
theorem RepL.strs : ∀ {vs : List V} {ns : List (List Nat)}, RepL K F vs (ns.map D.str) → vs = (ns.map mkS).map V.str
  | [], [], _ => rfl
  | [], _ :: _, h => by cases h
  | _ :: _, [], h => by cases h
  | _ :: _, _ :: _, h => by
    cases h with
    | cons h r => cases h; simp only [List.map_cons]; rw [RepL.strs r]
theorem RepL.ofInts : ∀ (ns : List Int), RepL K F (ns.map V.int) (ns.map D.int)
  | [] => .nil
  | n :: ns => .cons (.int n) (RepL.ofInts ns)
theorem RepL.ofStrs : ∀ (ns : List (List Nat)), RepL K F ((ns.map mkS).map V.str) (ns.map D.str)
  | [] => .nil
  | n :: ns => .cons (.str n) (RepL.ofStrs ns)
end

/-! ### equality of data by the library -/
mutual
theorem Rep.dp {K : PySem.W.Frag} {H : Hp} : ∀ {d : D} {v : V}, PyData.canLay0 d.py = true → Rep K H v d → Dp K H v d.py
  | _, _, _, .non => by simp only [D.py]; exact .non
  | _, _, _, .bl b => by simp only [D.py]; exact .bl b
  | _, _, _, .int b => by simp only [D.py]; exact .int b
  | _, _, _, .str b => by simp only [D.py]; exact .str _
  | .tup ds, _, h, .tup e r => by
    simp only [D.py] at h ⊢
    exact .tup (SqT.of e) (RepL.dp (by simpa [PyData.canLay0] using h) r)
  | .lst ds, _, h, .lst e r => by
    simp only [D.py] at h ⊢
    exact .lst (SqL.of e) (RepL.dp (by simpa [PyData.canLay0] using h) r)
  | _, _, h, .dK _ _ => by simp [D.py, PyData.canLay0] at h
  | _, _, h, .dT _ _ => by simp [D.py, PyData.canLay0] at h
  | _, _, h, .scr _ => by simp [D.py, PyData.canLay0] at h
theorem RepL.dp {K : PySem.W.Frag} {H : Hp} : ∀ {ds : List D} {vs : List V}, PyData.canLayAll0 (D.pys ds) = true → RepL K H vs ds → DpAll K H vs (D.pys ds)
  | _, _, _, .nil => by simp only [D.pys]; exact .nil
  | d :: ds, _, h, .cons e r => by
    simp only [D.pys, PyData.canLayAll0, Bool.and_eq_true] at h ⊢
    exact .cons (Rep.dp h.1 e) (RepL.dp h.2 r)
end
end PW

set_option Elab.async false
set_option linter.all false
set_option autoImplicit false
set_option maxRecDepth 100000
set_option maxHeartbeats 4000000
namespace PW
open PySem PySem.Spec PyProof.Rows L2

/-! ### the state as plain data: what each slot holds -/
/-- data; a list or dict of our own that may still change; the same, handed in by the caller at an address -/
inductive B where
  | dat (d : D) | own (d : D) | par (a : Addr) (d : D)
abbrev En := List (Option B)
def B.d : B → D
  | .dat d => d | .own d => d | .par _ d => d
def B.put : B → D → B
  | .dat _, d => .dat d | .own _, d => .own d | .par a _, d => .par a d
def B.mu : B → Bool
  | .dat _ => false | _ => true

def Cell (K : PySem.W.Frag) (F H : Hp) (a : Addr) : D → Prop
  | .lst ds => ∃ vs, H a = some (.lst vs) ∧ RepL K F vs ds
  | .dct false kd => ∃ kv, H a = some (.dK kv) ∧ RepK K F kv kd
  | .dct true kd => ∃ kv, H a = some (.dT kv) ∧ RepT K F kv kd
  | _ => False
theorem Cell.mono {K : PySem.W.Frag} {F F' H H' : Hp} {a : Addr} {d : D} (s : Sub F F') (e : H' a = H a) (c : Cell K F H a d) : Cell K F' H' a d := by
  cases d with
  | lst ds => obtain ⟨vs, h, r⟩ := c; exact ⟨vs, e.trans h, r.mono s⟩
  | dct t kd =>
    cases t <;> (obtain ⟨kv, h, r⟩ := c; exact ⟨kv, e.trans h, r.mono s⟩)
  | _ => exact c.elim
def isTup : HO → Bool
  | .tup _ => true | _ => false
theorem Cell.there {K : PySem.W.Frag} {F H : Hp} {a : Addr} {d : D} (c : Cell K F H a d) : ∃ u, H a = some u ∧ isTup u = false := by
  cases d with
  | lst ds => obtain ⟨vs, h, r⟩ := c; exact ⟨_, h, rfl⟩
  | dct t kd => cases t <;> (obtain ⟨kv, h, r⟩ := c; exact ⟨_, h, rfl⟩)
  | _ => exact c.elim
/-- a cell, known from now on -/
theorem Cell.rep {K : PySem.W.Frag} {F H : Hp} {a : Addr} {d : D} {u : HO} (c : Cell K F H a d) (e : H a = some u) (n : F a = none) : Rep K (upd F a u) (.ref a) d := by
  have s : Sub F (upd F a u) := Sub.upd_new _ n
  cases d with
  | lst ds =>
    obtain ⟨vs, h, r⟩ := c
    rw [e] at h; cases h
    exact .lst upd_same (r.mono s)
  | dct t kd =>
    cases t
    · obtain ⟨kv, h, r⟩ := c
      rw [e] at h; cases h
      exact .dK (.inl upd_same) (r.mono s)
    · obtain ⟨kv, h, r⟩ := c
      rw [e] at h; cases h
      exact .dT (.inl upd_same) (r.mono s)
  | _ => exact c.elim

def ownA : V → B → Option Addr
  | .ref a, .own _ => some a
  | .ref a, .par _ _ => some a
  | _, _ => none
def RB (K : PySem.W.Frag) (O F H : Hp) (v : V) : B → Prop
  | .dat d => Rep K F v d
  | .own d => ∃ a, v = .ref a ∧ F a = none ∧ O a = none ∧ Cell K F H a d
  | .par a d => v = .ref a ∧ F a = none ∧ O a = none ∧ Cell K F H a d
theorem RB.own {K : PySem.W.Frag} {O F H : Hp} {v : V} {b : B} {a : Addr} (r : RB K O F H v b) (h : ownA v b = some a) : v = .ref a ∧ F a = none ∧ O a = none ∧ Cell K F H a b.d := by
  cases b with
  | dat d => cases v <;> cases h
  | own d =>
    obtain ⟨a', e, r⟩ := r
    subst e
    cases h
    exact ⟨rfl, r⟩
  | par a' d =>
    obtain ⟨e, r⟩ := r
    subst e
    cases h
    exact ⟨rfl, r⟩
theorem RB.mono {K : PySem.W.Frag} {O F F' H H' : Hp} {v : V} {b : B} (s : Sub F F') (k : ∀ a, ownA v b = some a → F' a = none ∧ H' a = H a) (r : RB K O F H v b) : RB K O F' H' v b := by
  cases b with
  | dat d => exact Rep.mono s r
  | own d =>
    obtain ⟨a, e, n, o, c⟩ := r
    subst e
    obtain ⟨n', h'⟩ := k a rfl
    exact ⟨a, rfl, n', o, c.mono s h'⟩
  | par a d =>
    obtain ⟨e, n, o, c⟩ := r
    subst e
    obtain ⟨n', h'⟩ := k a rfl
    exact ⟨rfl, n', o, c.mono s h'⟩

def Owned (σ : L2.St) (E : En) (a : Addr) : Prop := ∃ (i : Nat) (b : B) (v : V), E[i]? = some (some b) ∧ σ[i]? = some (some v) ∧ ownA v b = some a

/-- σ, H bear E: F what is known for good, O what stands apart (the caller's), G what was known at the start -/
structure R (K : PySem.W.Frag) (O G F : Hp) (σ : L2.St) (H : Hp) (E : En) : Prop where
  g : Sub G F
  f : Sub F H
  o : ∀ a u, O a = some u → H a = some u ∧ (F a = none ∨ isTup u = true)
  len : σ.length = E.length
  at_ : ∀ (i : Nat) (b : B), E[i]? = some (some b) → ∃ v : V, σ[i]? = some (some v) ∧ RB K O F H v b
  nd : ∀ (i j : Nat) (a : Addr) (bi bj : B) (v w : V), E[i]? = some (some bi) → E[j]? = some (some bj) → σ[i]? = some (some v) → σ[j]? = some (some w) → ownA v bi = some a → ownA w bj = some a → i = j

/-- a result: none of E's -/
def RR (K : PySem.W.Frag) (O F : Hp) (σ : L2.St) (H : Hp) (E : En) (v : V) (b : B) : Prop := RB K O F H v b ∧ ∀ a, ownA v b = some a → ¬ Owned σ E a

section
variable {K : PySem.W.Frag} {O G F F' : Hp} {σ : L2.St} {H H' : Hp} {E : En} {v : V} {b : B} {d : D} {a p : Addr} {u : HO}

theorem R.owned (r : R K O G F σ H E) (h : Owned σ E a) : F a = none ∧ O a = none ∧ ∃ u, H a = some u ∧ isTup u = false := by
  obtain ⟨i, b, v, h1, h2, h3⟩ := h
  obtain ⟨v', e, q⟩ := r.at_ i b h1
  rw [h2] at e; cases e
  obtain ⟨_, n, o, c⟩ := q.own h3
  exact ⟨n, o, c.there⟩
theorem R.step (r : R K O G F σ H E) (s : Sub F F') (f : Sub F' H') (o : ∀ a u, O a = some u → H' a = some u ∧ (F' a = none ∨ isTup u = true)) (k : ∀ a, Owned σ E a → F' a = none ∧ H' a = H a) : R K O G F' σ H' E :=
  ⟨r.g.trans s, f, o, r.len, fun i b e => by
    obtain ⟨v, e2, q⟩ := r.at_ i b e
    exact ⟨v, e2, q.mono s fun a h => k a ⟨i, b, v, e, e2, h⟩⟩, r.nd⟩
theorem R.notOwned (r : R K O G F σ H E) (h : H p = none) : ¬ Owned σ E p := fun w => by
  obtain ⟨_, _, u, e, _⟩ := r.owned w
  rw [h] at e; cases e
theorem R.oNone (r : R K O G F σ H E) (h : H p = none) : O p = none := by
  cases e : O p with
  | none => rfl
  | some u => rw [(r.o p u e).1] at h; cases h
/-- a new object -/
theorem R.alloc (r : R K O G F σ H E) (h : H p = none) : R K O G F σ (upd H p u) E :=
  r.step (Sub.refl F) (r.f.upd_out _ (r.f.gone h)) (fun a w e => by rw [upd_ne (ne_of_none (r.o a w e).1 h)]; exact r.o a w e) fun a w => by
    obtain ⟨n, _, x, e, _⟩ := r.owned w
    exact ⟨n, upd_ne (ne_of_none e h)⟩
/-- what is nobody's becomes known -/
theorem R.freeze (r : R K O G F σ H E) (h : H a = some u) (n : F a = none) (o : O a = none) (w : ¬ Owned σ E a) : R K O G (upd F a u) σ H E :=
  r.step (Sub.upd_new _ n) (r.f.upd_in h) (fun c x e => ⟨(r.o c x e).1, by rw [upd_ne (ne_of_none e o)]; exact (r.o c x e).2⟩) fun c q => ⟨by
    rw [upd_ne (fun (z : c = a) => w (by rw [← z]; exact q))]
    exact (r.owned q).1, rfl⟩
/-- a tuple that stands may be known -/
theorem R.knowTup {q : Addr} {xs : List V} (r : R K O G F σ H E) (h : H q = some (.tup xs)) : ∃ F', Sub F F' ∧ R K O G F' σ H E ∧ F' q = some (.tup xs) := by
  cases hF : F q with
  | some u =>
    rcases r.f q u hF with e | ⟨_, o, e⟩
    · rw [h] at e; cases e
      exact ⟨F, Sub.refl F, r, hF⟩
    · rw [h] at e; cases e
  | none =>
    refine ⟨upd F q (.tup xs), Sub.upd_new _ hF, r.step (Sub.upd_new _ hF) (r.f.upd_in h) (fun a u e => ⟨(r.o a u e).1, ?_⟩) fun a w => ⟨?_, rfl⟩, upd_same⟩
    · by_cases z : a = q
      · subst z
        have := (r.o a u e).1
        rw [h] at this; cases this
        exact .inr rfl
      · rw [upd_ne z]; exact (r.o a u e).2
    · obtain ⟨n, _, u, e, t⟩ := r.owned w
      rw [upd_ne (fun z => by subst z; rw [h] at e; cases e; cases t)]
      exact n
/-- a result's freezing -/
theorem R.frz (r : R K O G F σ H E) (q : RR K O F σ H E v b) : ∃ F', Sub F F' ∧ R K O G F' σ H E ∧ Rep K F' v b.d := by
  cases hb : ownA v b with
  | none =>
    cases b with
    | dat d => exact ⟨F, Sub.refl F, r, q.1⟩
    | own d => obtain ⟨a, e, _⟩ := q.1; subst e; cases hb
    | par a d => obtain ⟨e, _⟩ := q.1; subst e; cases hb
  | some a =>
    obtain ⟨e, n, o, c⟩ := q.1.own hb
    obtain ⟨u, hu, _⟩ := c.there
    subst e
    exact ⟨upd F a u, Sub.upd_new _ n, r.freeze hu n o (q.2 a hb), c.rep hu n⟩

theorem getset_eq {α : Type} {l : List α} {i : Nat} {x : α} (h : i < l.length) : (l.set i x)[i]? = some x := List.getElem?_set_self h
theorem getset {α : Type} {l : List α} {i j : Nat} {x y : α} (h : (l.set i x)[j]? = some y) : (j = i ∧ y = x ∧ i < l.length) ∨ (j ≠ i ∧ l[j]? = some y) := by
  by_cases e : j = i
  · subst e
    have hl : j < l.length := by
      have := (List.getElem?_eq_some_iff.mp h).1
      simpa using this
    rw [List.getElem?_set_self hl] at h
    exact .inl ⟨rfl, (Option.some.inj h).symm, hl⟩
  · rw [List.getElem?_set_ne (fun z => e z.symm)] at h
    exact .inr ⟨e, h⟩
theorem Owned.of_set {i : Nat} {v : V} {b : B} (h : Owned (σ.set i (some v)) (E.set i (some b)) a) : ownA v b = some a ∨ Owned σ E a := by
  obtain ⟨j, c, w, h1, h2, h3⟩ := h
  rcases getset h1 with ⟨rfl, e, hl⟩ | ⟨ne, h1⟩
  · cases e
    rcases getset h2 with ⟨_, e, _⟩ | ⟨ne, _⟩
    · cases e; exact .inl h3
    · exact absurd rfl ne
  · rcases getset h2 with ⟨e, _, _⟩ | ⟨_, h2⟩
    · exact absurd e ne
    · exact .inr ⟨j, c, w, h1, h2, h3⟩
/-- a slot is stored -/
theorem R.set (r : R K O G F σ H E) (i : Nat) (q : RR K O F σ H E v b) : R K O G F (σ.set i (some v)) H (E.set i (some b)) := by
  refine ⟨r.g, r.f, r.o, by rw [List.length_set, List.length_set]; exact r.len, fun j c e => ?_, fun j k a bj bk w x h1 h2 h3 h4 h5 h6 => ?_⟩
  · rcases getset e with ⟨rfl, e, hl⟩ | ⟨ne, e⟩
    · cases e
      exact ⟨v, getset_eq (by rw [r.len]; exact hl), q.1⟩
    · obtain ⟨w, e2, q2⟩ := r.at_ j c e
      exact ⟨w, by rw [List.getElem?_set_ne (fun z => ne z.symm)]; exact e2, q2⟩
  · rcases getset h1 with ⟨e1, e, hl⟩ | ⟨ne, g1⟩
    · rcases getset h3 with ⟨_, e', _⟩ | ⟨z, _⟩
      · rcases getset h2 with ⟨e2, _, _⟩ | ⟨ne, g2⟩
        · rw [e1, e2]
        · rcases getset h4 with ⟨e, _, _⟩ | ⟨_, g4⟩
          · exact absurd e ne
          · cases e; cases e'
            exact absurd ⟨k, bk, x, g2, g4, h6⟩ (q.2 a h5)
      · exact absurd e1 z
    · rcases getset h3 with ⟨e, _, _⟩ | ⟨_, g3⟩
      · exact absurd e ne
      · rcases getset h2 with ⟨e2, e, _⟩ | ⟨ne2, g2⟩
        · rcases getset h4 with ⟨_, e', _⟩ | ⟨z, _⟩
          · cases e; cases e'
            exact absurd ⟨j, bj, w, g1, g3, h5⟩ (q.2 a h6)
          · exact absurd e2 z
        · rcases getset h4 with ⟨e, _, _⟩ | ⟨_, g4⟩
          · exact absurd e ne2
          · exact r.nd j k a bj bk w x g1 g2 g3 g4 h5 h6
/-- a slot is forgotten -/
theorem R.forget (r : R K O G F σ H E) (i : Nat) : R K O G F σ H (E.set i none) := by
  refine ⟨r.g, r.f, r.o, by rw [List.length_set]; exact r.len, fun j c e => ?_, fun j k a bj bk w x h1 h2 h3 h4 h5 h6 => ?_⟩
  · rcases getset e with ⟨_, e, _⟩ | ⟨_, e⟩
    · cases e
    · exact r.at_ j c e
  · rcases getset h1 with ⟨_, e, _⟩ | ⟨_, h1⟩
    · cases e
    · rcases getset h2 with ⟨_, e, _⟩ | ⟨_, h2⟩
      · cases e
      · exact r.nd j k a bj bk w x h1 h2 h3 h4 h5 h6
theorem R.forget_owned (r : R K O G F σ H E) {i : Nat} (h1 : E[i]? = some (some b)) (h2 : σ[i]? = some (some v)) (h3 : ownA v b = some a) : ¬ Owned σ (E.set i none) a := fun ⟨j, c, w, e1, e2, e3⟩ => by
  rcases getset e1 with ⟨_, e, _⟩ | ⟨ne, e1⟩
  · cases e
  · exact ne (r.nd j i a c b w v e1 h1 e2 h2 e3 h3)
theorem getsome_lt {α : Type} {l : List α} {i : Nat} {x : α} (h : l[i]? = some x) : i < l.length := (List.getElem?_eq_some_iff.mp h).1
/-- a slot's value moved out -/
theorem R.move (r : R K O G F σ H E) {i : Nat} (h1 : E[i]? = some (some b)) : ∃ v, σ[i]? = some (some v) ∧ R K O G F σ H (E.set i none) ∧ RR K O F σ H (E.set i none) v b := by
  obtain ⟨v, e, q⟩ := r.at_ i b h1
  exact ⟨v, e, r.forget i, q, fun a h => r.forget_owned h1 e h⟩
theorem set_back {α : Type} {l : List (Option α)} {i : Nat} {x : α} {y : Option α} : (l.set i none).set i y = l.set i y := by
  rw [List.set_set]
theorem set_id {α : Type} {l : List α} {i : Nat} {x : α} (h : l[i]? = some x) : l.set i x = l := by
  apply List.ext_getElem?
  intro j
  by_cases e : j = i
  · subst e; rw [getset_eq (getsome_lt h), h]
  · rw [List.getElem?_set_ne (fun z => e z.symm)]
/-- a slot's freezing -/
theorem R.frzVar (r : R K O G F σ H E) {i : Nat} (h1 : E[i]? = some (some b)) : ∃ v F', σ[i]? = some (some v) ∧ Sub F F' ∧ R K O G F' σ H (E.set i (some (.dat b.d))) ∧ Rep K F' v b.d := by
  obtain ⟨v, e, r2, q⟩ := r.move h1
  obtain ⟨F', s, r3, p⟩ := r2.frz q
  have r4 := r3.set i (v := v) (b := .dat b.d) ⟨p, fun a h => by cases v <;> cases h⟩
  rw [set_id e, set_back (x := b)] at r4
  exact ⟨v, F', e, s, r4, p⟩
/-- a cell of ours is rewritten -/
theorem R.write (r : R K O G F σ H E) {i : Nat} (h1 : E[i]? = some (some b)) (h2 : σ[i]? = some (some v)) (h3 : ownA v b = some a) (c : Cell K F (upd H a u) a d) :
    R K O G F σ (upd H a u) (E.set i (some (b.put d))) := by
  obtain ⟨n, o, x, hx, _⟩ := r.owned ⟨i, b, v, h1, h2, h3⟩
  have r2 := r.forget i
  have w := r.forget_owned h1 h2 h3
  have r3 : R K O G F σ (upd H a u) (E.set i none) := r2.step (Sub.refl F) (r.f.upd_out _ n) (fun c y e => by rw [upd_ne (ne_of_none e o)]; exact r.o c y e) fun c q => ⟨(r2.owned q).1, upd_ne (fun (z : c = a) => w (by rw [← z]; exact q))⟩
  have hv : v = .ref a := by
    obtain ⟨v', e, q⟩ := r.at_ i b h1
    rw [h2] at e; cases e
    exact (q.own h3).1
  subst hv
  have q : RR K O F σ (upd H a u) (E.set i none) (.ref a) (b.put d) := by
    cases b with
    | dat d => cases h3
    | own d' => exact ⟨⟨a, rfl, n, o, c⟩, fun a' h => by cases h; exact w⟩
    | par a' d' =>
      obtain ⟨v', e, q⟩ := r.at_ i _ h1
      rw [h2] at e; cases e
      obtain ⟨e, _⟩ := q
      cases e
      exact ⟨⟨rfl, n, o, c⟩, fun a' h => by cases h; exact w⟩
  have r4 := r3.set i q
  rw [set_id h2, set_back (x := b)] at r4
  exact r4
end

/-! ### judgements -/
abbrev WE := En → (B → En → Prop) → Prop
abbrev WT := En → (Bool → En → Prop) → Prop
abbrev WA := En → (List D → En → Prop) → Prop
/-- an operand: data, or a slot that is read later -/
inductive Opn where
  | val (d : D) | slot (i : Nat)
def Opn.get (E : En) : Opn → Option D
  | .val d => some d
  | .slot i => match E[i]? with
    | some (some b) => some b.d
    | _ => none
abbrev WO := En → (Opn → En → Prop) → Prop
def OB (K : PySem.W.Frag) (F : Hp) (σ : L2.St) (v : V) : Opn → Prop
  | .val d => Rep K F v d
  | .slot i => σ[i]? = some (some v)

def EOk (K : PySem.W.Frag) (t : TE) (w : WE) : Prop := ∀ O G F σ H E (Q : B → En → Prop), R K O G F σ H E → w E Q →
  t σ H fun v H' => ∃ F' E' b, Sub F F' ∧ R K O G F' σ H' E' ∧ RR K O F' σ H' E' v b ∧ Q b E'
def OOk (K : PySem.W.Frag) (t : TE) (w : WO) : Prop := ∀ O G F σ H E (Q : Opn → En → Prop), R K O G F σ H E → w E Q →
  t σ H fun v H' => ∃ F' E' o, Sub F F' ∧ R K O G F' σ H' E' ∧ OB K F' σ v o ∧ Q o E'
def TOk (K : PySem.W.Frag) (t : TT) (w : WT) : Prop := ∀ O G F σ H E (Q : Bool → En → Prop), R K O G F σ H E → w E Q →
  t σ H fun b H' => ∃ F' E', Sub F F' ∧ R K O G F' σ H' E' ∧ Q b E'
def AOk (K : PySem.W.Frag) (t : TA) (w : WA) : Prop := ∀ O G F σ H E (Q : List D → En → Prop), R K O G F σ H E → w E Q →
  t σ H fun vs H' => ∃ F' E' ds, Sub F F' ∧ R K O G F' σ H' E' ∧ RepL K F' vs ds ∧ Q ds E'

/-- what a value may be read as -/
def Rdb (K : PySem.W.Frag) (F H : Hp) (v : V) (d : D) : Prop := Rep K F v d ∨ ∃ a, v = .ref a ∧ Cell K F H a d
theorem OB.mono {K : PySem.W.Frag} {F F' : Hp} {σ : L2.St} {v : V} {o : Opn} (s : Sub F F') (h : OB K F σ v o) : OB K F' σ v o := by
  cases o with
  | val d => exact Rep.mono s h
  | slot i => exact h
theorem R.rdb {K : PySem.W.Frag} {O G F : Hp} {σ : L2.St} {H : Hp} {E : En} {v : V} {o : Opn} {d : D} (r : R K O G F σ H E) (h : OB K F σ v o) (g : o.get E = some d) : Rdb K F H v d := by
  cases o with
  | val d' => cases g; exact .inl h
  | slot i =>
    have h : σ[i]? = some (some v) := h
    simp only [Opn.get] at g
    split at g
    · rename_i b e
      cases g
      obtain ⟨v', e2, q⟩ := r.at_ i b e
      rw [h] at e2; cases e2
      cases b with
      | dat d => exact .inl q
      | own d => obtain ⟨a, e, _, _, c⟩ := q; exact .inr ⟨a, e, c⟩
      | par a d => obtain ⟨e, _, _, c⟩ := q; exact .inr ⟨a, e, c⟩
    · cases g

section
variable {K : PySem.W.Frag} {F H : Hp} {v : V}
theorem Rdb.lst {ds : List D} (h : Rdb K F H v (.lst ds)) (s : Sub F H) : ∃ a vs, v = .ref a ∧ H a = some (.lst vs) ∧ RepL K F vs ds := by
  rcases h with h | ⟨a, e, vs, h, r⟩
  · cases h with
    | lst h r => exact ⟨_, _, rfl, s.lst h, r⟩
  · exact ⟨a, vs, e, h, r⟩
theorem Rdb.scr {ns : List Int} (h : Rdb K F H v (.scr ns)) (s : Sub F H) : ∃ a, v = .ref a ∧ SqL K H a (ns.map V.int) := by
  rcases h with h | ⟨a, e, h⟩
  · cases h with
    | scr h => exact ⟨_, rfl, s.sql h⟩
  · exact h.elim
theorem Rdb.tup {ds : List D} (h : Rdb K F H v (.tup ds)) (s : Sub F H) : ∃ a vs, v = .ref a ∧ H a = some (.tup vs) ∧ RepL K F vs ds := by
  rcases h with h | ⟨a, e, h⟩
  · cases h with
    | tup h r => exact ⟨_, _, rfl, s.tup h, r⟩
  · exact h.elim
theorem Rdb.int {i : Int} (h : Rdb K F H v (.int i)) : v = .int i := by
  rcases h with h | ⟨a, e, h⟩
  · cases h; rfl
  · exact h.elim
theorem Rdb.bl {i : Bool} (h : Rdb K F H v (.bl i)) : v = .bl i := by
  rcases h with h | ⟨a, e, h⟩
  · cases h; rfl
  · exact h.elim
theorem Rdb.non (h : Rdb K F H v .non) : v = .non := by
  rcases h with h | ⟨a, e, h⟩
  · cases h; rfl
  · exact h.elim
theorem Rdb.str {i : List Nat} (h : Rdb K F H v (.str i)) : v = .str (mkS i) := by
  rcases h with h | ⟨a, e, h⟩
  · cases h; rfl
  · exact h.elim
theorem Rdb.dK {kd : List (D × D)} (h : Rdb K F H v (.dct false kd)) (s : Sub F H) : ∃ a kv, v = .ref a ∧ Rd H a (.dK kv) ∧ RepK K F kv kd := by
  rcases h with h | ⟨a, e, kv, h, r⟩
  · cases h with
    | dK h r => exact ⟨_, _, rfl, s.rd h, r⟩
  · exact ⟨a, kv, e, .inl h, r⟩
theorem Rdb.dT {kd : List (D × D)} (h : Rdb K F H v (.dct true kd)) (s : Sub F H) : ∃ a kv, v = .ref a ∧ Rd H a (.dT kv) ∧ RepT K F kv kd := by
  rcases h with h | ⟨a, e, kv, h, r⟩
  · cases h with
    | dT h r => exact ⟨_, _, rfl, s.rd h, r⟩
  · exact ⟨a, kv, e, .inl h, r⟩
theorem Rdb.rep {d : D} (h : Rdb K F H v d) (s : Sub F H) : Rep K H v d := by
  rcases h with h | ⟨a, e, c⟩
  · exact h.mono s
  · subst e
    cases d with
    | lst ds => obtain ⟨vs, h, r⟩ := c; exact .lst h (r.mono s)
    | dct t kd =>
      cases t
      · obtain ⟨kv, h, r⟩ := c
        exact .dK (.inl h) (r.mono s)
      · obtain ⟨kv, h, r⟩ := c
        exact .dT (.inl h) (r.mono s)
    | _ => exact c.elim
end

/-! ### the frame of an operation on values -/
/-- what an operation hands back -/
def OutB (K : PySem.W.Frag) (O G F : Hp) (σ : L2.St) (E : En) (Q : B → Prop) : VK := fun v H' => ∃ F' b, Sub F F' ∧ R K O G F' σ H' E ∧ RR K O F' σ H' E v b ∧ Q b
def Op1Ok (K : PySem.W.Frag) (r : V → Hp → VK → Prop) (w : D → (B → Prop) → Prop) : Prop := ∀ O G F σ H E x dx (Q : B → Prop) (Q' : VK), R K O G F σ H E → Rdb K F H x dx → w dx Q → (∀ v H', OutB K O G F σ E Q v H' → Q' v H') → r x H Q'
def Op2Ok (K : PySem.W.Frag) (r : R2) (w : D → D → (B → Prop) → Prop) : Prop := ∀ O G F σ H E x y dx dy (Q : B → Prop) (Q' : VK), R K O G F σ H E → Rdb K F H x dx → Rdb K F H y dy → w dx dy Q → (∀ v H', OutB K O G F σ E Q v H' → Q' v H') → r x y H Q'

section
variable {K : PySem.W.Frag} {O G F : Hp} {σ : L2.St} {H : Hp} {E : En} {Q : B → Prop}
theorem OutB.dat {v : V} {d : D} (r : R K O G F σ H E) (p : Rep K F v d) (q : Q (.dat d)) : OutB K O G F σ E Q v H := ⟨F, .dat d, Sub.refl F, r, ⟨p, fun a h => by cases v <;> cases h⟩, q⟩
theorem OutB.lst {a : Addr} {vs : List V} {ds : List D} (r : R K O G F σ H E) (h : H a = none) (p : RepL K F vs ds) (q : Q (.own (.lst ds))) : OutB K O G F σ E Q (.ref a) (upd H a (.lst vs)) :=
  ⟨F, .own (.lst ds), Sub.refl F, r.alloc h, ⟨⟨a, rfl, r.f.gone h, r.oNone h, vs, upd_same, p⟩, fun a' e => by cases e; exact r.notOwned h⟩, q⟩
theorem OutB.tup {a : Addr} {vs : List V} {ds : List D} (r : R K O G F σ H E) (h : H a = none) (p : RepL K F vs ds) (q : Q (.dat (.tup ds))) : OutB K O G F σ E Q (.ref a) (upd H a (.tup vs)) := by
  have n := r.f.gone h
  have r2 := (r.alloc (u := .tup vs) h).freeze upd_same n (r.oNone h) (r.notOwned h)
  exact ⟨_, .dat (.tup ds), Sub.upd_new _ n, r2, ⟨.tup upd_same (p.mono (Sub.upd_new _ n)), fun a' e => by cases e⟩, q⟩
theorem OutB.dctK {a : Addr} {kv : List (Key × V)} {kd : List (D × D)} (r : R K O G F σ H E) (h : H a = none) (p : RepK K F kv kd) (q : Q (.own (.dct false kd))) : OutB K O G F σ E Q (.ref a) (upd H a (.dK kv)) :=
  ⟨F, .own (.dct false kd), Sub.refl F, r.alloc h, ⟨⟨a, rfl, r.f.gone h, r.oNone h, ⟨kv, upd_same, p⟩⟩, fun a' e => by cases e; exact r.notOwned h⟩, q⟩
theorem OutB.dctT {a : Addr} {kv : List (List Key × V)} {kd : List (D × D)} (r : R K O G F σ H E) (h : H a = none) (p : RepT K F kv kd) (q : Q (.own (.dct true kd))) : OutB K O G F σ E Q (.ref a) (upd H a (.dT kv)) :=
  ⟨F, .own (.dct true kd), Sub.refl F, r.alloc h, ⟨⟨a, rfl, r.f.gone h, r.oNone h, ⟨kv, upd_same, p⟩⟩, fun a' e => by cases e; exact r.notOwned h⟩, q⟩
end
end PW

set_option Elab.async false
set_option linter.all false
set_option autoImplicit false
set_option maxRecDepth 100000
set_option maxHeartbeats 4000000
namespace PW
open PySem PySem.Spec PyProof.Rows L2

/-! ### the canonical readings: what w asks -/
def tE (K : PySem.W.Frag) (w : WE) : TE := fun σ H Q => ∃ O G F E Q', R K O G F σ H E ∧ w E Q' ∧ ∀ v H' F' E' b, Sub F F' → R K O G F' σ H' E' → RR K O F' σ H' E' v b → Q' b E' → Q v H'
def tO (K : PySem.W.Frag) (w : WO) : TE := fun σ H Q => ∃ O G F E Q', R K O G F σ H E ∧ w E Q' ∧ ∀ v H' F' E' o, Sub F F' → R K O G F' σ H' E' → OB K F' σ v o → Q' o E' → Q v H'
def tT (K : PySem.W.Frag) (w : WT) : TT := fun σ H Q => ∃ O G F E Q', R K O G F σ H E ∧ w E Q' ∧ ∀ b H' F' E', Sub F F' → R K O G F' σ H' E' → Q' b E' → Q b H'
def tA (K : PySem.W.Frag) (w : WA) : TA := fun σ H Q => ∃ O G F E Q', R K O G F σ H E ∧ w E Q' ∧ ∀ vs H' F' E' ds, Sub F F' → R K O G F' σ H' E' → RepL K F' vs ds → Q' ds E' → Q vs H'
theorem tE_ok {K : PySem.W.Frag} {w : WE} : EOk K (tE K w) w := fun O G F σ H E Q r h => ⟨O, G, F, E, Q, r, h, fun v H' F' E' b s r' q k => ⟨F', E', b, s, r', q, k⟩⟩
theorem tO_ok {K : PySem.W.Frag} {w : WO} : OOk K (tO K w) w := fun O G F σ H E Q r h => ⟨O, G, F, E, Q, r, h, fun v H' F' E' b s r' q k => ⟨F', E', b, s, r', q, k⟩⟩
theorem tT_ok {K : PySem.W.Frag} {w : WT} : TOk K (tT K w) w := fun O G F σ H E Q r h => ⟨O, G, F, E, Q, r, h, fun b H' F' E' s r' k => ⟨F', E', s, r', k⟩⟩
theorem tA_ok {K : PySem.W.Frag} {w : WA} : AOk K (tA K w) w := fun O G F σ H E Q r h => ⟨O, G, F, E, Q, r, h, fun v H' F' E' b s r' q k => ⟨F', E', b, s, r', q, k⟩⟩

abbrev ED (X : Cx) (e : Expr) (w : WE) : Prop := PE X e (tE X.K w)
abbrev OD (X : Cx) (e : Expr) (w : WO) : Prop := PE X e (tO X.K w)
abbrev TD (X : Cx) (e : Expr) (w : WT) : Prop := PT X e (tT X.K w)
abbrev WD (X : Cx) (e : Expr) (w : WT) : Prop := PW X e (tT X.K w)
abbrev AD (X : Cx) (es : List Expr) (w : WA) : Prop := PA X es (tA X.K w)

section
variable {X : Cx} {e : Expr} {es : List Expr}
theorem ed_of {t : TE} {w : WE} (h : PE X e t) (k : EOk X.K t w) : ED X e w := ⟨fun pins s σ H Q I hq => by
  obtain ⟨O, G, F, E, Q', r, hw, kk⟩ := hq
  refine thn (h.run pins s σ H _ I (k O G F σ H E Q' r hw)) fun u s' hu => ?_
  obtain ⟨v, H', I', rv, F', E', b, sb, r', q, p⟩ := hu
  exact ⟨v, H', I', rv, kk v H' F' E' b sb r' q p⟩⟩
theorem od_of {t : TE} {w : WO} (h : PE X e t) (k : OOk X.K t w) : OD X e w := ⟨fun pins s σ H Q I hq => by
  obtain ⟨O, G, F, E, Q', r, hw, kk⟩ := hq
  refine thn (h.run pins s σ H _ I (k O G F σ H E Q' r hw)) fun u s' hu => ?_
  obtain ⟨v, H', I', rv, F', E', b, sb, r', q, p⟩ := hu
  exact ⟨v, H', I', rv, kk v H' F' E' b sb r' q p⟩⟩
theorem td_of {t : TT} {w : WT} (h : PT X e t) (k : TOk X.K t w) : TD X e w := ⟨fun pins s σ H Q I hq => by
  obtain ⟨O, G, F, E, Q', r, hw, kk⟩ := hq
  refine thn (h.run pins s σ H _ I (k O G F σ H E Q' r hw)) fun b s' hu => ?_
  obtain ⟨H', I', F', E', sb, r', p⟩ := hu
  exact ⟨H', I', kk b H' F' E' sb r' p⟩⟩
theorem wd_of {t : TT} {w : WT} (h : PW X e t) (k : TOk X.K t w) : WD X e w := ⟨fun wh pins s σ H Q I hq => by
  obtain ⟨O, G, F, E, Q', r, hw, kk⟩ := hq
  refine thn (h.run wh pins s σ H _ I (k O G F σ H E Q' r hw)) fun b s' hu => ?_
  obtain ⟨H', I', F', E', sb, r', p⟩ := hu
  exact ⟨H', I', kk b H' F' E' sb r' p⟩⟩
theorem ad_of {t : TA} {w : WA} (h : PA X es t) (k : AOk X.K t w) : AD X es w := ⟨fun pos pins s σ H Q I hq => by
  obtain ⟨O, G, F, E, Q', r, hw, kk⟩ := hq
  refine thn (h.run pos pins s σ H _ I (k O G F σ H E Q' r hw)) fun u s' hu => ?_
  obtain ⟨v, H', I', rv, F', E', b, sb, r', q, p⟩ := hu
  exact ⟨v, H', I', rv, kk v H' F' E' b sb r' q p⟩⟩
end

/-! ### what the readings are, as plain data -/
def wC (d : D) : WE := fun E Q => Q (.dat d) E
/-- a name: known from now on -/
def wV (i : Nat) : WE := fun E Q => match E[i]? with
  | some (some (.dat d)) => Q (.dat d) E
  | some (some b) => Q (.dat b.d) (E.set i (some (.dat b.d)))
  | _ => False
/-- a name for the last time: it is handed on -/
def wM (i : Nat) : WE := fun E Q => match E[i]? with
  | some (some (.dat d)) => Q (.dat d) E
  | some (some (.own d)) => Q (.own d) (E.set i none)
  | _ => False
def oV (i : Nat) : WO := fun E Q => match E[i]? with
  | some (some (.dat d)) => Q (.val d) E
  | some (some _) => Q (.slot i) E
  | _ => False
def oE (w : WE) : WO := fun E Q => w E fun b E' => Q (.val b.d) E'
def wOp (wr : D → D → (B → Prop) → Prop) (wa wb : WO) : WE := fun E Q => wa E fun oa E1 => wb E1 fun ob E2 => match oa.get E2, ob.get E2 with
  | some x, some y => wr x y fun b => Q b E2
  | _, _ => False
def wUn (wr : D → (B → Prop) → Prop) (wa : WO) : WE := fun E Q => wa E fun oa E1 => match oa.get E1 with
  | some x => wr x fun b => Q b E1
  | _ => False
/-- a value that is True or False, as a test -/
def wTst (w : WE) : WT := fun E Q => w E fun b E' => match b with
  | .dat (.bl k) => Q k E'
  | _ => False
def wAnd (t u : WT) : WT := fun E Q => t E fun b E1 => if b = true then u E1 Q else Q false E1
def wOr (t u : WT) : WT := fun E Q => t E fun b E1 => if b = true then Q true E1 else u E1 Q
def wNot (t : WT) : WT := fun E Q => t E fun b E1 => Q (!b) E1
def wIf (t : WT) (wa wb : WE) : WE := fun E Q => t E fun b E1 => if b = true then wa E1 Q else wb E1 Q
/-- and, or, not as values -/
def wBl (t : WT) : WE := fun E Q => t E fun b E1 => Q (.dat (.bl b)) E1
def aN : WA := fun E Q => Q [] E
def aC (w : WE) (r : WA) : WA := fun E Q => w E fun b E1 => r E1 fun ds E2 => Q (b.d :: ds) E2
def wTup (a : WA) : WE := fun E Q => a E fun ds E1 => ds.length ≤ 16777216 ∧ Q (.dat (.tup ds)) E1
def wLst (a : WA) : WE := fun E Q => a E fun ds E1 => ds.length ≤ 16777216 ∧ Q (.own (.lst ds)) E1

section
variable {K : PySem.W.Frag}
theorem ok_c {v : V} {d : D} (h : ∀ F, Rep K F v d) : EOk K (tC v) (wC d) := fun O G F σ H E Q r q => ⟨F, E, .dat d, Sub.refl F, r, ⟨h F, fun a e => by cases v <;> cases e⟩, q⟩
theorem datRR {O F : Hp} {σ : L2.St} {H : Hp} {E : En} {v : V} {d : D} (h : Rep K F v d) : RR K O F σ H E v (.dat d) := ⟨h, fun a e => by cases v <;> cases e⟩
theorem ok_v {i : Nat} : EOk K (tVar i) (wV i) := fun O G F σ H E Q r q => by
  unfold wV at q
  split at q
  · rename_i d e
    obtain ⟨v, h, p⟩ := r.at_ i _ e
    exact ⟨v, h, F, E, .dat d, Sub.refl F, r, datRR p, q⟩
  · rename_i b hb e
    obtain ⟨v, F', h, s, r', p⟩ := r.frzVar e
    exact ⟨v, h, F', _, .dat b.d, s, r', datRR p, q⟩
  · exact q.elim
theorem ok_m {i : Nat} : EOk K (tVar i) (wM i) := fun O G F σ H E Q r q => by
  unfold wM at q
  split at q
  · rename_i d e
    obtain ⟨v, h, p⟩ := r.at_ i _ e
    exact ⟨v, h, F, E, .dat d, Sub.refl F, r, datRR p, q⟩
  · rename_i d e
    obtain ⟨v, h, r', p⟩ := r.move e
    exact ⟨v, h, F, _, .own d, Sub.refl F, r', p, q⟩
  · exact q.elim
theorem ok_ov {i : Nat} : OOk K (tVar i) (oV i) := fun O G F σ H E Q r q => by
  unfold oV at q
  split at q
  · rename_i d e
    obtain ⟨v, h, p⟩ := r.at_ i _ e
    exact ⟨v, h, F, E, .val d, Sub.refl F, r, p, q⟩
  · rename_i b hb e
    obtain ⟨v, h, p⟩ := r.at_ i _ e
    exact ⟨v, h, F, E, .slot i, Sub.refl F, r, h, q⟩
  · exact q.elim
theorem ok_oe {t : TE} {w : WE} (h : EOk K t w) (mono : ∀ σ H (Q Q' : VK), (∀ v H', Q v H' → Q' v H') → t σ H Q → t σ H Q') : OOk K t (oE w) := fun O G F σ H E Q r q => by
  refine mono σ H _ _ (fun v H' hq => ?_) (h O G F σ H E _ r q)
  obtain ⟨F', E', b, s, r', p, q'⟩ := hq
  obtain ⟨F2, s2, r2, p2⟩ := r'.frz p
  exact ⟨F2, E', .val b.d, s.trans s2, r2, p2, q'⟩
theorem tE_mono {w : WE} : ∀ σ H (Q Q' : VK), (∀ v H', Q v H' → Q' v H') → tE K w σ H Q → tE K w σ H Q' := fun σ H Q Q' h ⟨O, G, F, E, Q0, r, hw, k⟩ => ⟨O, G, F, E, Q0, r, hw, fun v H' F' E' b s r' p q => h _ _ (k v H' F' E' b s r' p q)⟩
/-- an evaluation goes on -/
theorem tE_bind {w : WE} {O G F : Hp} {σ : L2.St} {H : Hp} {E : En} {Q : VK} {P : B → En → Prop} (r : R K O G F σ H E) (h : w E P) (k : ∀ v H' F' E' b, Sub F F' → R K O G F' σ H' E' → RR K O F' σ H' E' v b → P b E' → Q v H') : tE K w σ H Q := ⟨O, G, F, E, P, r, h, k⟩
theorem tO_bind {w : WO} {O G F : Hp} {σ : L2.St} {H : Hp} {E : En} {Q : VK} {P : Opn → En → Prop} (r : R K O G F σ H E) (h : w E P) (k : ∀ v H' F' E' o, Sub F F' → R K O G F' σ H' E' → OB K F' σ v o → P o E' → Q v H') : tO K w σ H Q := ⟨O, G, F, E, P, r, h, k⟩
theorem tT_bind {w : WT} {O G F : Hp} {σ : L2.St} {H : Hp} {E : En} {Q : Bool → Hp → Prop} {P : Bool → En → Prop} (r : R K O G F σ H E) (h : w E P) (k : ∀ b H' F' E', Sub F F' → R K O G F' σ H' E' → P b E' → Q b H') : tT K w σ H Q := ⟨O, G, F, E, P, r, h, k⟩
theorem tA_bind {w : WA} {O G F : Hp} {σ : L2.St} {H : Hp} {E : En} {Q : List V → Hp → Prop} {P : List D → En → Prop} (r : R K O G F σ H E) (h : w E P) (k : ∀ vs H' F' E' ds, Sub F F' → R K O G F' σ H' E' → RepL K F' vs ds → P ds E' → Q vs H') : tA K w σ H Q := ⟨O, G, F, E, P, r, h, k⟩

theorem ok_op {r : R2} {wr : D → D → (B → Prop) → Prop} {wa wb : WO} (h : Op2Ok K r wr) : EOk K (tOp r (tO K wa) (tO K wb)) (wOp wr wa wb) := fun O G F σ H E Q r0 q => by
  refine tO_bind r0 q fun x H1 F1 E1 oa s1 r1 p1 q1 => ?_
  refine tO_bind r1 q1 fun y H2 F2 E2 ob s2 r2 p2 q2 => ?_
  split at q2
  · rename_i dx dy ex ey
    refine h O G F2 σ H2 E2 x y dx dy _ _ r2 (r2.rdb (p1.mono s2) ex) (r2.rdb p2 ey) q2 ?_
    intro v H' ⟨F', b, s3, r3, p3, q3⟩
    exact ⟨F', E2, b, (s1.trans s2).trans s3, r3, p3, q3⟩
  · exact q2.elim
theorem ok_un {r : V → Hp → VK → Prop} {wr : D → (B → Prop) → Prop} {wa : WO} (h : Op1Ok K r wr) : EOk K (fun σ H Q => tO K wa σ H fun x H1 => r x H1 Q) (wUn wr wa) := fun O G F σ H E Q r0 q => by
  refine tO_bind r0 q fun x H1 F1 E1 oa s1 r1 p1 q1 => ?_
  split at q1
  · rename_i dx ex
    refine h O G F1 σ H1 E1 x dx _ _ r1 (r1.rdb p1 ex) q1 ?_
    intro v H' ⟨F', b, s3, r3, p3, q3⟩
    exact ⟨F', E1, b, s1.trans s3, r3, p3, q3⟩
  · exact q1.elim
theorem ok_tst {w : WE} : TOk K (tTest (tE K w)) (wTst w) := fun O G F σ H E Q r0 q => by
  refine tE_bind r0 q fun v H1 F1 E1 b s1 r1 p1 q1 => ?_
  split at q1
  · rename_i k
    have p := p1.1
    have e : v = .bl k := by cases p; rfl
    exact ⟨k, e, F1, E1, s1, r1, q1⟩
  · exact q1.elim
theorem ok_tB {w : WE} : TOk K (tB (tE K w)) (wTst w) := ok_tst
theorem ok_and {t u : WT} : TOk K (tAnd (tT K t) (tT K u)) (wAnd t u) := fun O G F σ H E Q r0 q => by
  refine tT_bind r0 q fun b H1 F1 E1 s1 r1 q1 => ?_
  cases b with
  | true => exact tT_bind r1 q1 fun b H2 F2 E2 s2 r2 q2 => ⟨F2, E2, s1.trans s2, r2, q2⟩
  | false => exact ⟨F1, E1, s1, r1, q1⟩
theorem ok_or {t u : WT} : TOk K (tOr (tT K t) (tT K u)) (wOr t u) := fun O G F σ H E Q r0 q => by
  refine tT_bind r0 q fun b H1 F1 E1 s1 r1 q1 => ?_
  cases b with
  | false => exact tT_bind r1 q1 fun b H2 F2 E2 s2 r2 q2 => ⟨F2, E2, s1.trans s2, r2, q2⟩
  | true => exact ⟨F1, E1, s1, r1, q1⟩
theorem ok_not {t : WT} : TOk K (tNot (tT K t)) (wNot t) := fun O G F σ H E Q r0 q =>
  tT_bind r0 q fun b H1 F1 E1 s1 r1 q1 => ⟨F1, E1, s1, r1, q1⟩
theorem ok_if {t : WT} {wa wb : WE} : EOk K (tIf (tT K t) (tE K wa) (tE K wb)) (wIf t wa wb) := fun O G F σ H E Q r0 q => by
  refine tT_bind r0 q fun b H1 F1 E1 s1 r1 q1 => ?_
  cases b with
  | true => exact tE_bind r1 q1 fun v H2 F2 E2 b s2 r2 p2 q2 => ⟨F2, E2, b, s1.trans s2, r2, p2, q2⟩
  | false => exact tE_bind r1 q1 fun v H2 F2 E2 b s2 r2 p2 q2 => ⟨F2, E2, b, s1.trans s2, r2, p2, q2⟩
theorem ok_an : AOk K tNil aN := fun O G F σ H E Q r0 q => ⟨F, E, [], Sub.refl F, r0, .nil, q⟩
theorem ok_ac {w : WE} {a : WA} : AOk K (tCons (tE K w) (tA K a)) (aC w a) := fun O G F σ H E Q r0 q => by
  refine tE_bind r0 q fun v H1 F1 E1 b s1 r1 p1 q1 => ?_
  obtain ⟨F2, s2, r2, p2⟩ := r1.frz p1
  refine tA_bind r2 q1 fun vs H3 F3 E3 ds s3 r3 p3 q3 => ?_
  exact ⟨F3, E3, b.d :: ds, (s1.trans s2).trans s3, r3, .cons (p2.mono s3) p3, q3⟩
theorem line_eq : sizeLine = 16777216 := sizeLine_eq
theorem ok_tup {a : WA} : EOk K (tTup (tA K a)) (wTup a) := fun O G F σ H E Q r0 q => by
  refine tA_bind r0 q fun vs H1 F1 E1 ds s1 r1 p1 q1 => ?_
  refine ⟨by rw [p1.length, line_eq]; exact q1.1, fun p hp => ?_⟩
  obtain ⟨F2, b, s2, r2, p2, q2⟩ := OutB.tup (Q := fun b => Q b E1) r1 hp p1 q1.2
  exact ⟨F2, E1, b, s1.trans s2, r2, p2, q2⟩
theorem ok_lst {a : WA} : EOk K (tLst (tA K a)) (wLst a) := fun O G F σ H E Q r0 q => by
  refine tA_bind r0 q fun vs H1 F1 E1 ds s1 r1 p1 q1 => ?_
  refine ⟨by rw [p1.length, line_eq]; exact q1.1, fun p hp => ?_⟩
  obtain ⟨F2, b, s2, r2, p2, q2⟩ := OutB.lst (Q := fun b => Q b E1) r1 hp p1 q1.2
  exact ⟨F2, E1, b, s1.trans s2, r2, p2, q2⟩
end

/-! ### rules over the program's text: expressions -/
section
variable {X : Cx} {e a b c : Expr} {es : List Expr} {pos : Pos}
theorem ed_int {i j pos} : ED X (.Constant (.int i) j pos) (wC (.int i)) := ed_of pe_int (ok_c fun _ => .int i)
theorem ed_bl {b j pos} : ED X (.Constant (.bool b) j pos) (wC (.bl b)) := ed_of pe_bl (ok_c fun _ => .bl b)
theorem ed_non {j pos} : ED X (.Constant .none j pos) (wC .non) := ed_of pe_non (ok_c fun _ => .non)
theorem ed_str {x : Str} {l : List Nat} {j pos} (h : x = mkS l) : ED X (.Constant (.str x) j pos) (wC (.str l)) := by
  subst h
  exact ed_of pe_str (ok_c fun _ => .str l)
theorem ed_v (i : Nat) {x : Str} {pos : Pos} (hN : X.N[i]? = some x := by rfl) (hv : Vis X.env.scope x := by first | exact Or.inl rfl | exact Or.inr (Or.inl rfl) | exact Or.inr (Or.inr rfl)) (hd : (x == ("__debug__" : Str)) = false := by decide)
    (hcd : (x == ("__classdict__" : Str)) = false := by decide) : ED X (.Name x pos) (wV i) := ed_of (pe_var hN hv hd hcd) ok_v
theorem ed_m (i : Nat) {x : Str} {pos : Pos} (hN : X.N[i]? = some x := by rfl) (hv : Vis X.env.scope x := by first | exact Or.inl rfl | exact Or.inr (Or.inl rfl) | exact Or.inr (Or.inr rfl)) (hd : (x == ("__debug__" : Str)) = false := by decide)
    (hcd : (x == ("__classdict__" : Str)) = false := by decide) : ED X (.Name x pos) (wM i) := ed_of (pe_var hN hv hd hcd) ok_m
theorem od_v (i : Nat) {x : Str} {pos : Pos} (hN : X.N[i]? = some x := by rfl) (hv : Vis X.env.scope x := by first | exact Or.inl rfl | exact Or.inr (Or.inl rfl) | exact Or.inr (Or.inr rfl)) (hd : (x == ("__debug__" : Str)) = false := by decide)
    (hcd : (x == ("__classdict__" : Str)) = false := by decide) : OD X (.Name x pos) (oV i) := od_of (pe_var hN hv hd hcd) ok_ov
theorem od_e {w : WE} (h : ED X e w) : OD X e (oE w) := od_of h (ok_oe tE_ok tE_mono)
theorem ed_op {op : Operator} {r : R2} {wr : D → D → (B → Prop) → Prop} {wa wb : WO} (ho : OpR X (binaryOp op) r) (hk : Op2Ok X.K r wr) (ha : OD X a wa) (hb : OD X b wb) : ED X (.BinOp a op b pos) (wOp wr wa wb) := ed_of (pe_op ho ha hb) (ok_op hk)
theorem ed_cmp {op : CmpOp} {r : R2} {wr : D → D → (B → Prop) → Prop} {wa wb : WO} (ho : OpR X (compareOp op) r) (hk : Op2Ok X.K r wr) (hm : behindInMarks op b = false) (ha : OD X a wa) (hb : OD X b wb) : ED X (.Compare a [op] [b] pos) (wOp wr wa wb) := ed_of (pe_cmpR ho ha hb hm) (ok_op hk)
theorem td_cmp {op : CmpOp} {r : R2} {wr : D → D → (B → Prop) → Prop} {wa wb : WO} (ho : OpR X (compareOp op) r) (hk : Op2Ok X.K r wr) (hm : behindInMarks op b = false) (ha : OD X a wa) (hb : OD X b wb) : TD X (.Compare a [op] [b] pos) (wTst (wOp wr wa wb)) := by
  refine td_of (pt_cmpR ho ha hb hm) fun O G F σ H E Q r0 q => ?_
  refine tO_bind r0 q fun x H1 F1 E1 oa s1 r1 p1 q1 => ?_
  refine tO_bind r1 q1 fun y H2 F2 E2 ob s2 r2 p2 q2 => ?_
  split at q2
  · rename_i dx dy ex ey
    refine hk O G F2 σ H2 E2 x y dx dy _ _ r2 (r2.rdb (p1.mono s2) ex) (r2.rdb p2 ey) q2 ?_
    intro v H' ⟨F', b, s3, r3, p3, q3⟩
    dsimp only at q3
    split at q3
    · rename_i k
      have p := p3.1
      have e : v = .bl k := by cases p; rfl
      exact ⟨k, e, F', E2, (s1.trans s2).trans s3, r3, q3⟩
    · exact q3.elim
  · exact q2.elim
theorem ed_un {op : UnaryOp} {r : V → Hp → VK → Prop} {wr : D → (B → Prop) → Prop} {wa : WO} (ho : UnR X (unaryOp op) r) (hk : Op1Ok X.K r wr) (ha : OD X a wa) : ED X (.UnaryOp op a pos) (wUn wr wa) := ed_of (pe_un ho ha) (ok_un hk)
theorem td_val {w : WE} (h : ED X e w) (hw : PT X e (tB (tE X.K w)) := by first | exact pt_val h) : TD X e (wTst w) := td_of hw ok_tB
variable {rest : List Expr}
theorem wd_and1 {t : WT} (ha : TD X a t) : WD X (.BoolOp .And [a] pos) t := pw_and1 ha
theorem wd_or1 {t : WT} (ha : TD X a t) : WD X (.BoolOp .Or [a] pos) t := pw_or1 ha
theorem wd_and {t u : WT} (ha : TD X a t) (hb : WD X (.BoolOp .And (b :: rest) pos) u) : WD X (.BoolOp .And (a :: b :: rest) pos) (wAnd t u) := wd_of (pw_and ha hb) ok_and
theorem wd_or {t u : WT} (ha : TD X a t) (hb : WD X (.BoolOp .Or (b :: rest) pos) u) : WD X (.BoolOp .Or (a :: b :: rest) pos) (wOr t u) := wd_of (pw_or ha hb) ok_or
theorem td_w {t : WT} (h : WD X e t) : TD X e t := h.pt
theorem td_not {t : WT} (ha : TD X a t) : TD X (.UnaryOp .Not a pos) (wNot t) := td_of (pt_not ha) ok_not
theorem ed_if {t : WT} {wa wb : WE} (hc : TD X c t) (ha : ED X a wa) (hb : ED X b wb) : ED X (.IfExp c a b pos) (wIf t wa wb) := ed_of (pe_ifExp hc ha hb) ok_if
/-- and, or, not as values: all but the last are True or False -/
def wAndV (w u : WE) : WE := fun E Q => w E fun x E1 => match x with
  | .dat (.bl k) => if k = true then u E1 Q else Q (.dat (.bl false)) E1
  | _ => False
def wOrV (w u : WE) : WE := fun E Q => w E fun x E1 => match x with
  | .dat (.bl k) => if k = true then Q (.dat (.bl true)) E1 else u E1 Q
  | _ => False
def wNotV (w : WE) : WE := fun E Q => w E fun x E1 => match x with
  | .dat (.bl k) => Q (.dat (.bl (!k))) E1
  | _ => False
theorem ed_one {op} {w : WE} (h : ED X a w) : ED X (.BoolOp op [a] pos) w := pe_one h
theorem ed_and {w u : WE} (ha : ED X a w) (hb : ED X (.BoolOp .And (b :: rest) pos) u) : ED X (.BoolOp .And (a :: b :: rest) pos) (wAndV w u) := by
  refine ed_of (pe_and ha hb) fun O G F σ H E Q r0 q => ?_
  refine tE_bind r0 q fun v H1 F1 E1 b s1 r1 p1 q1 => ?_
  split at q1
  · rename_i k
    have p := p1.1
    have e : v = .bl k := by cases p; rfl
    refine ⟨k, e, ?_⟩
    cases k with
    | true => exact tE_bind r1 q1 fun v H2 F2 E2 b s2 r2 p2 q2 => ⟨F2, E2, b, s1.trans s2, r2, p2, q2⟩
    | false => exact ⟨F1, E1, _, s1, r1, datRR (.bl false), q1⟩
  · exact q1.elim
theorem ed_or {w u : WE} (ha : ED X a w) (hb : ED X (.BoolOp .Or (b :: rest) pos) u) : ED X (.BoolOp .Or (a :: b :: rest) pos) (wOrV w u) := by
  refine ed_of (pe_or ha hb) fun O G F σ H E Q r0 q => ?_
  refine tE_bind r0 q fun v H1 F1 E1 b s1 r1 p1 q1 => ?_
  split at q1
  · rename_i k
    have p := p1.1
    have e : v = .bl k := by cases p; rfl
    refine ⟨k, e, ?_⟩
    cases k with
    | false => exact tE_bind r1 q1 fun v H2 F2 E2 b s2 r2 p2 q2 => ⟨F2, E2, b, s1.trans s2, r2, p2, q2⟩
    | true => exact ⟨F1, E1, _, s1, r1, datRR (.bl true), q1⟩
  · exact q1.elim
theorem ed_not {w : WE} (ha : ED X a w) : ED X (.UnaryOp .Not a pos) (wNotV w) := by
  refine ed_of (pe_not ha) fun O G F σ H E Q r0 q => ?_
  refine tE_bind r0 q fun v H1 F1 E1 b s1 r1 p1 q1 => ?_
  split at q1
  · rename_i k
    have p := p1.1
    have e : v = .bl k := by cases p; rfl
    exact ⟨k, e, F1, E1, _, s1, r1, datRR (.bl _), q1⟩
  · exact q1.elim
theorem ad_n : AD X [] aN := ad_of pa_nil ok_an
theorem ad_c {w : WE} {r : WA} (ha : ED X e w) (hr : AD X es r) (hs : starEach (e :: es) X.env = (false, eval e X.env) :: starEach es X.env := by rfl) : AD X (e :: es) (aC w r) := ad_of (pa_cons ha hr hs) ok_ac
theorem ed_tup {x1} {w : WA} (h : AD X es w) : ED X (.Tuple es x1 pos) (wTup w) := ed_of (pe_tup h) ok_tup
theorem ed_lst {w : WA} (h : AD X es w) : ED X (.List es pos) (wLst w) := ed_of (pe_lst h) ok_lst
/-- a module's own constant -/
theorem ed_glob {x : Str} {v : V} {d : D} {u : Value} {pos : Pos} (hg : Gl X x) (hm : X.mg x = some u) (r : RelV v u) (h : ∀ F, Rep X.K F v d) (hd : (x == ("__debug__" : Str)) = false := by decide) : ED X (.Name x pos) (wC d) := ed_of (pe_glob hg hm r hd) (ok_c h)
end
end PW

set_option Elab.async false
set_option linter.all false
set_option autoImplicit false
set_option maxRecDepth 100000
set_option maxHeartbeats 4000000
namespace PW
open PySem PySem.Spec PyProof.Rows L2

/-! ### operations, as plain data -/
def wAdd : D → D → (B → Prop) → Prop
  | .int i, .int j, Q => Q (.dat (.int (i + j)))
  | .str a, .str b, Q => a.length + b.length ≤ 16777216 ∧ Q (.dat (.str (a ++ b)))
  | .lst a, .lst b, Q => a.length + b.length ≤ 16777216 ∧ Q (.own (.lst (a ++ b)))
  | .tup a, .tup b, Q => a.length + b.length ≤ 16777216 ∧ Q (.dat (.tup (a ++ b)))
  | _, _, _ => False
def wSub : D → D → (B → Prop) → Prop
  | .int i, .int j, Q => Q (.dat (.int (i - j)))
  | _, _, _ => False
def MulOk (i j : Int) : Prop := (-(2 ^ 64) < i ∧ i < 2 ^ 64) ∨ (-(2 ^ 64) < j ∧ j < 2 ^ 64) ∨ (i.natAbs < 2 ^ 2000 ∧ j.natAbs < 2 ^ 2000)
theorem MulOk.ok {i j : Int} (h : MulOk i j) : IntMulOk i j := by
  rcases h with h | h | ⟨h1, h2⟩
  · exact CMul.ok (.inl h)
  · exact CMul.ok (.inr h)
  · exact (wide_mul h1 h2 (by decide) (by decide) (by decide)).ok
def wMul : D → D → (B → Prop) → Prop
  | .int i, .int j, Q => MulOk i j ∧ Q (.dat (.int (i * j)))
  | _, _, _ => False
def wMod : D → D → (B → Prop) → Prop
  | .int i, .int j, Q => 0 < j ∧ Q (.dat (.int (i % j)))
  | _, _, _ => False
def wFdiv : D → D → (B → Prop) → Prop
  | .int i, .int j, Q => (0 < j ∧ j.natAbs < 2 ^ 2000) ∧ Q (.dat (.int (i / j)))
  | _, _, _ => False
def wPow : D → D → (B → Prop) → Prop
  | .int i, .int j, Q => (0 ≤ j ∧ j ≤ 1000000 ∧ i.natAbs < 2 ^ 64) ∧ Q (.dat (.int (i ^ j.toNat)))
  | _, _, _ => False
def wShl : D → D → (B → Prop) → Prop
  | .int i, .int j, Q => (0 ≤ j ∧ j ≤ 1000000 ∧ i.natAbs < 2 ^ 64) ∧ Q (.dat (.int (i * 2 ^ j.toNat)))
  | _, _, _ => False
def wBand : D → D → (B → Prop) → Prop
  | .int i, .int j, Q => Q (.dat (.int (Builtin.bitAnd i j)))
  | _, _, _ => False
def wNeg : D → (B → Prop) → Prop
  | .int i, Q => Q (.dat (.int (-i)))
  | _, _ => False

theorem mkS_append (a b : List Nat) : mkS a ++ mkS b = mkS (a ++ b) := by
  show (⟨a.toArray ++ b.toArray⟩ : Str) = ⟨(a ++ b).toArray⟩
  simp
theorem mkS_length (a : List Nat) : (mkS a).length = a.length := by
  show a.toArray.size = a.length
  simp

section
variable {X : Cx}
abbrev rAddAll (K : PySem.W.Frag) : R2 := fun x y H Q => ((rI0 fun i j => .int (i + j)) x y H Q ∨ (∃ i j, x = .str i ∧ y = .str j ∧ i.length + j.length ≤ sizeLine ∧ Q (.str (i ++ j)) H)) ∨ rCat x y H Q ∨ rCatA K x y H Q
theorem op_addAll : OpR X (binaryOp .Add) (rAddAll X.K) := (op_add.or op_add_str).or (op_cat.or op_catA)
end
section
variable {K : PySem.W.Frag}
theorem k_add : Op2Ok K (rAddAll K) wAdd := by
  intro O G F σ H E x y dx dy Q Q' r hx hy q k
  unfold wAdd at q
  split at q
  · exact .inl (.inl ⟨_, _, hx.int, hy.int, k _ _ (.dat r (.int _) q)⟩)
  · rename_i a b
    refine .inl (.inr ⟨_, _, hx.str, hy.str, ?_, ?_⟩)
    · rw [mkS_length, mkS_length, line_eq]; exact q.1
    · rw [mkS_append]; exact k _ _ (.dat r (.str _) q.2)
  · obtain ⟨a, vs, rfl, h1, p1⟩ := hx.lst r.f
    obtain ⟨b, ws, rfl, h2, p2⟩ := hy.lst r.f
    refine .inr (.inl ⟨a, b, vs, ws, rfl, rfl, h1, h2, ?_, fun p hp => k _ _ (.lst r hp (p1.append p2) q.2)⟩)
    rw [p1.length, p2.length, line_eq]; exact q.1
  · obtain ⟨a, vs, rfl, h1, p1⟩ := hx.tup r.f
    obtain ⟨b, ws, rfl, h2, p2⟩ := hy.tup r.f
    refine .inr (.inr ⟨a, b, vs, ws, rfl, rfl, SqT.of h1, SqT.of h2, ?_, fun e => ?_, fun _ e => ?_, fun _ _ p hp => k _ _ (.tup r hp (p1.append p2) q.2)⟩)
    · rw [p1.length, p2.length, line_eq]; exact q.1
    · subst e
      cases p1
      rcases hy with hy | ⟨_, e, hy⟩
      · exact k _ _ (.dat r hy q.2)
      · exact hy.elim
    · subst e
      cases p2
      rw [List.append_nil] at q
      rcases hx with hx | ⟨_, e, hx⟩
      · exact k _ _ (.dat r hx q.2)
      · exact hx.elim
  · exact q.elim
theorem k_sub : Op2Ok K (rI0 fun i j => .int (i - j)) wSub := by
  intro O G F σ H E x y dx dy Q Q' r hx hy q k
  unfold wSub at q
  split at q
  · exact ⟨_, _, hx.int, hy.int, k _ _ (.dat r (.int _) q)⟩
  · exact q.elim
theorem op_mulA {X : Cx} : OpR X (binaryOp .Mult) (rI MulOk fun i j => .int (i * j)) := opI fun _ _ _ _ _ _ _ hc q => mul_int q (MulOk.ok hc)
theorem k_mul : Op2Ok K (rI MulOk fun i j => .int (i * j)) wMul := by
  intro O G F σ H E x y dx dy Q Q' r hx hy q k
  unfold wMul at q
  split at q
  · exact ⟨_, _, hx.int, hy.int, q.1, k _ _ (.dat r (.int _) q.2)⟩
  · exact q.elim
theorem k_mod : Op2Ok K (rI (fun _ j => 0 < j) fun i j => .int (i % j)) wMod := by
  intro O G F σ H E x y dx dy Q Q' r hx hy q k
  unfold wMod at q
  split at q
  · exact ⟨_, _, hx.int, hy.int, q.1, k _ _ (.dat r (.int _) q.2)⟩
  · exact q.elim
def CFd (_ j : Int) : Prop := 0 < j ∧ j.natAbs < 2 ^ 2000
theorem op_fdA {X : Cx} : OpR X (binaryOp .FloorDiv) (rI CFd fun i j => .int (i / j)) := opI fun i j _ _ _ _ _ hc q => by
  have h1 : (0 : Int) < j := hc.1
  exact floordiv_int (by omega) (by rw [Int.fdiv_eq_ediv_of_nonneg i (by omega)]; exact q) (.inl (PyProof.noPylong_of_log2 (wide_div (i := i) h1 hc.2 (by decide) (by decide)).2))
theorem k_fdiv : Op2Ok K (rI CFd fun i j => .int (i / j)) wFdiv := by
  intro O G F σ H E x y dx dy Q Q' r hx hy q k
  unfold wFdiv at q
  split at q
  · exact ⟨_, _, hx.int, hy.int, q.1, k _ _ (.dat r (.int _) q.2)⟩
  · exact q.elim
theorem k_pow : Op2Ok K (rI CPow fun i j => .int (i ^ j.toNat)) wPow := by
  intro O G F σ H E x y dx dy Q Q' r hx hy q k
  unfold wPow at q
  split at q
  · exact ⟨_, _, hx.int, hy.int, q.1, k _ _ (.dat r (.int _) q.2)⟩
  · exact q.elim
theorem k_shl : Op2Ok K (rI CPow fun i j => .int (i * 2 ^ j.toNat)) wShl := by
  intro O G F σ H E x y dx dy Q Q' r hx hy q k
  unfold wShl at q
  split at q
  · exact ⟨_, _, hx.int, hy.int, q.1, k _ _ (.dat r (.int _) q.2)⟩
  · exact q.elim
theorem k_band : Op2Ok K (rI0 fun i j => .int (Builtin.bitAnd i j)) wBand := by
  intro O G F σ H E x y dx dy Q Q' r hx hy q k
  unfold wBand at q
  split at q
  · exact ⟨_, _, hx.int, hy.int, k _ _ (.dat r (.int _) q)⟩
  · exact q.elim
theorem k_neg : Op1Ok K (rU fun i => .int (-i)) wNeg := by
  intro O G F σ H E x dx Q Q' r hx q k
  unfold wNeg at q
  split at q
  · exact ⟨_, hx.int, k _ _ (.dat r (.int _) q)⟩
  · exact q.elim
end

/-! ### comparisons -/
def okD (d : D) : Bool := SeqAt.shaped d.py
def eqD (x y : D) : Bool := PyData.eqv x.py y.py
/-- two texts, or data laid out -/
def eqOk (x y : D) : Prop := (∃ a b, x = .str a ∧ y = .str b) ∨ (okD x = true ∧ okD y = true)
def wEq (x y : D) (Q : B → Prop) : Prop := eqOk x y ∧ Q (.dat (.bl (eqD x y)))
def wNe (x y : D) (Q : B → Prop) : Prop := eqOk x y ∧ Q (.dat (.bl (!eqD x y)))
def wCmpI (p : Int → Int → Bool) : D → D → (B → Prop) → Prop
  | .int i, .int j, Q => Q (.dat (.bl (p i j)))
  | _, _, _ => False
def isNon : D → Bool
  | .non => true
  | _ => false
def wIsN (x y : D) (Q : B → Prop) : Prop := isNon y = true ∧ Q (.dat (.bl (isNon x)))
def wNotN (x y : D) (Q : B → Prop) : Prop := isNon y = true ∧ Q (.dat (.bl (!isNon x)))
section
variable {K : PySem.W.Frag}
theorem Rdb.dp {F H : Hp} {v : V} {d : D} (h : Rdb K F H v d) (s : Sub F H) (ok : okD d = true) : Dp K H v d.py := Rep.dp (SeqAt.canLay_of_shaped ok) (h.rep s)
theorem eqD_str (a b : List Nat) : eqD (.str a) (.str b) = decide (a = b) := by
  show PyData.eqv (.str (mkS a)) (.str (mkS b)) = _
  by_cases h : a = b
  · subst h; simp [PyData.eqv]
  · have : ¬ mkS a = mkS b := fun z => h (mkS_inj z)
    simp [PyData.eqv, h, this]
theorem decV_str (a b : List Nat) : decide (V.str (mkS a) = V.str (mkS b)) = eqD (.str a) (.str b) := by
  rw [eqD_str]
  by_cases h : a = b
  · subst h; simp
  · rw [decide_eq_false h, decide_eq_false]
    intro z
    injection z with z
    exact h (mkS_inj z)
abbrev rEqG (K : PySem.W.Frag) : R2 := fun x y H Q => (∃ a b, x = .str a ∧ y = .str b ∧ Q (.bl (decide (x = y))) H) ∨ rEqD K x y H Q
abbrev rNeG (K : PySem.W.Frag) : R2 := fun x y H Q => (∃ a b, x = .str a ∧ y = .str b ∧ Q (.bl (!decide (x = y))) H) ∨ rNeD K x y H Q
theorem op_eqG {X : Cx} (hu : X.A.units + 64 < cLine) : OpR X (compareOp .Eq) (rEqG X.K) := OpR.or (by
  intro pins s σ H x y v u Q I rx ry ⟨a, b, e1, e2, q⟩
  subst e1 e2
  exact op_eq pins s σ H _ _ v u Q I rx ry ⟨by first | trivial | rfl | simp [sameV], q⟩) (op_eqD hu)
theorem op_neG {X : Cx} (hu : X.A.units + 64 < cLine) : OpR X (compareOp .NotEq) (rNeG X.K) := OpR.or (by
  intro pins s σ H x y v u Q I rx ry ⟨a, b, e1, e2, q⟩
  subst e1 e2
  exact op_ne pins s σ H _ _ v u Q I rx ry ⟨by first | trivial | rfl | simp [sameV], q⟩) (op_neD hu)
theorem k_eq : Op2Ok K (rEqG K) wEq := by
  intro O G F σ H E x y dx dy Q Q' r hx hy ⟨ok, q⟩ k
  rcases ok with ⟨a, b, rfl, rfl⟩ | ⟨o1, o2⟩
  · have e1 := hx.str
    have e2 := hy.str
    subst e1 e2
    exact .inl ⟨_, _, rfl, rfl, by rw [decV_str]; exact k _ _ (.dat r (.bl _) q)⟩
  · exact .inr ⟨dx.py, dy.py, hx.dp r.f o1, hy.dp r.f o2, o1, o2, k _ _ (.dat r (.bl _) q)⟩
theorem k_ne : Op2Ok K (rNeG K) wNe := by
  intro O G F σ H E x y dx dy Q Q' r hx hy ⟨ok, q⟩ k
  rcases ok with ⟨a, b, rfl, rfl⟩ | ⟨o1, o2⟩
  · have e1 := hx.str
    have e2 := hy.str
    subst e1 e2
    exact .inl ⟨_, _, rfl, rfl, by rw [decV_str]; exact k _ _ (.dat r (.bl _) q)⟩
  · exact .inr ⟨dx.py, dy.py, hx.dp r.f o1, hy.dp r.f o2, o1, o2, k _ _ (.dat r (.bl _) q)⟩
theorem k_cmpI (p : Int → Int → Bool) : Op2Ok K (rI0 fun i j => .bl (p i j)) (wCmpI p) := by
  intro O G F σ H E x y dx dy Q Q' r hx hy q k
  unfold wCmpI at q
  split at q
  · exact ⟨_, _, hx.int, hy.int, k _ _ (.dat r (.bl _) q)⟩
  · exact q.elim
theorem Rdb.isNon {F H : Hp} {v : V} {d : D} (h : Rdb K F H v d) : decide (v = .non) = isNon d := by
  rcases h with h | ⟨a, e, h⟩
  · cases h <;> simp [PW.isNon]
  · subst e
    cases d <;> first | exact h.elim | simp [PW.isNon]
theorem isNon_eq {d : D} (h : isNon d = true) : d = .non := by cases d <;> first | rfl | cases h
theorem k_isN : Op2Ok K (fun x y H Q => y = .non ∧ Q (.bl (decide (x = .non))) H) wIsN := by
  intro O G F σ H E x y dx dy Q Q' r hx hy ⟨o1, q⟩ k
  have e := isNon_eq o1
  subst e
  exact ⟨hy.non, by rw [hx.isNon]; exact k _ _ (.dat r (.bl _) q)⟩
theorem k_notN : Op2Ok K (fun x y H Q => y = .non ∧ Q (.bl (!decide (x = .non))) H) wNotN := by
  intro O G F σ H E x y dx dy Q Q' r hx hy ⟨o1, q⟩ k
  have e := isNon_eq o1
  subst e
  exact ⟨hy.non, by rw [hx.isNon]; exact k _ _ (.dat r (.bl _) q)⟩
end

/-! ### dicts -/
def keyOk (t : Bool) : D → Bool
  | .int _ => !t
  | .str _ => !t
  | .tup l => t && l.all (fun d => match d with | .int _ => true | .str _ => true | _ => false)
  | _ => false
def lookD (kd : List (D × D)) (k : D) : Option D := (kd.find? fun p => eqD p.1 k).map (·.2)
def putD (kd : List (D × D)) (k v : D) : List (D × D) :=
  if (kd.any fun p => eqD p.1 k) = true then kd.map (fun p => if eqD p.1 k = true then (p.1, v) else p) else kd ++ [(k, v)]
def dropD (kd : List (D × D)) (k : D) : List (D × D) := kd.filter fun p => !eqD p.1 k
theorem eq_key (a b : Key) : eqD (kD a) (kD b) = decide (a = b) := by
  cases a with
  | inl i =>
    cases b with
    | inl j =>
      show PyData.eqv (D.py (.int i)) (D.py (.int j)) = _
      simp only [D.py, PyData.eqv, Sum.inl.injEq]
      rw [Bool.beq_eq_decide_eq]
    | inr y => simp [eqD, kD, D.py, PyData.eqv]
  | inr x =>
    cases b with
    | inl j => simp [eqD, kD, D.py, PyData.eqv]
    | inr y =>
      show PyData.eqv (D.py (.str x.cps.toList)) (D.py (.str y.cps.toList)) = _
      simp only [D.py, PyData.eqv, Sum.inr.injEq, mkS_of]
      rw [Bool.beq_eq_decide_eq]
theorem eq_keys (a b : List Key) : eqD (.tup (a.map kD)) (.tup (b.map kD)) = decide (a = b) := by
  show PyData.eqv (D.py (.tup (a.map kD))) (D.py (.tup (b.map kD))) = _
  simp only [D.py, PyData.eqv]
  induction a generalizing b with
  | nil => cases b <;> simp [D.pys, PyData.eqvAll]
  | cons x a ih =>
    cases b with
    | nil => simp [D.pys, PyData.eqvAll]
    | cons y b =>
      have e := eq_key x y
      simp only [eqD] at e
      simp only [List.map_cons, D.pys, PyData.eqvAll, e, ih b, List.cons.injEq, Bool.decide_and]
section
variable {K : PySem.W.Frag} {F : Hp}
theorem RepK.look : ∀ {kv : List (Key × V)} {kd : List (D × D)}, RepK K F kv kd → ∀ k : Key, (valV kv k = none ∧ lookD kd (kD k) = none) ∨ ∃ v d, valV kv k = some v ∧ lookD kd (kD k) = some d ∧ Rep K F v d
  | _, _, .nil, k => .inl ⟨rfl, rfl⟩
  | _, _, .cons (k := k0) (v := v0) (d := d0) h r, k => by
    by_cases e : k0 = k
    · refine .inr ⟨v0, d0, valV_pos e, ?_, h⟩
      have e2 : eqD (kD k0) (kD k) = true := by rw [eq_key]; exact decide_eq_true e
      simp only [lookD, List.find?_cons, e2, Option.map_some]
    · have e2 : eqD (kD k0) (kD k) = false := by rw [eq_key]; exact decide_eq_false e
      have h2 := RepK.look r k
      rw [valV_neg (p := (k0, v0)) e]
      simpa only [lookD, List.find?_cons, e2] using h2
theorem RepT.look : ∀ {kv : List (List Key × V)} {kd : List (D × D)}, RepT K F kv kd → ∀ k : List Key, (valV kv k = none ∧ lookD kd (.tup (k.map kD)) = none) ∨ ∃ v d, valV kv k = some v ∧ lookD kd (.tup (k.map kD)) = some d ∧ Rep K F v d
  | _, _, .nil, k => .inl ⟨rfl, rfl⟩
  | _, _, .cons (k := k0) (v := v0) (d := d0) h r, k => by
    by_cases e : k0 = k
    · refine .inr ⟨v0, d0, valV_pos e, ?_, h⟩
      have e2 : eqD (.tup (k0.map kD)) (.tup (k.map kD)) = true := by rw [eq_keys]; exact decide_eq_true e
      simp only [lookD, List.find?_cons, e2, Option.map_some]
    · have e2 : eqD (.tup (k0.map kD)) (.tup (k.map kD)) = false := by rw [eq_keys]; exact decide_eq_false e
      have h2 := RepT.look r k
      rw [valV_neg (p := (k0, v0)) e]
      simpa only [lookD, List.find?_cons, e2] using h2
theorem RepK.length : ∀ {kv : List (Key × V)} {kd : List (D × D)}, RepK K F kv kd → kv.length = kd.length
  | _, _, .nil => rfl
  | _, _, .cons h r => by simp [RepK.length r]
theorem RepT.length : ∀ {kv : List (List Key × V)} {kd : List (D × D)}, RepT K F kv kd → kv.length = kd.length
  | _, _, .nil => rfl
  | _, _, .cons h r => by simp [RepT.length r]
theorem RepK.append : ∀ {kv kv' : List (Key × V)} {kd kd' : List (D × D)}, RepK K F kv kd → RepK K F kv' kd' → RepK K F (kv ++ kv') (kd ++ kd')
  | _, _, _, _, .nil, s => s
  | _, _, _, _, .cons h r, s => .cons h (RepK.append r s)
theorem RepT.append : ∀ {kv kv' : List (List Key × V)} {kd kd' : List (D × D)}, RepT K F kv kd → RepT K F kv' kd' → RepT K F (kv ++ kv') (kd ++ kd')
  | _, _, _, _, .nil, s => s
  | _, _, _, _, .cons h r, s => .cons h (RepT.append r s)
theorem RepK.any : ∀ {kv : List (Key × V)} {kd : List (D × D)}, RepK K F kv kd → ∀ k : Key, (kv.any fun p => decide (p.1 = k)) = kd.any fun p => eqD p.1 (kD k)
  | _, _, .nil, k => rfl
  | _, _, .cons h r, k => by simp only [List.any_cons, eq_key, RepK.any r k]
theorem RepT.any : ∀ {kv : List (List Key × V)} {kd : List (D × D)}, RepT K F kv kd → ∀ k : List Key, (kv.any fun p => decide (p.1 = k)) = kd.any fun p => eqD p.1 (.tup (k.map kD))
  | _, _, .nil, k => rfl
  | _, _, .cons h r, k => by simp only [List.any_cons, eq_keys, RepT.any r k]
theorem RepK.mapPut {v : V} {d : D} (hv : Rep K F v d) (k : Key) : ∀ {kv : List (Key × V)} {kd : List (D × D)}, RepK K F kv kd →
    RepK K F (kv.map fun p => if p.1 = k then (p.1, v) else p) (kd.map fun p => if eqD p.1 (kD k) = true then (p.1, d) else p)
  | _, _, .nil => .nil
  | _, _, .cons (k := k0) h r => by
    simp only [List.map_cons, eq_key, decide_eq_true_eq]
    by_cases e : k0 = k
    · rw [if_pos e, if_pos e]; exact .cons hv (RepK.mapPut hv k r)
    · rw [if_neg e, if_neg e]; exact .cons h (RepK.mapPut hv k r)
theorem RepT.mapPut {v : V} {d : D} (hv : Rep K F v d) (k : List Key) : ∀ {kv : List (List Key × V)} {kd : List (D × D)}, RepT K F kv kd →
    RepT K F (kv.map fun p => if p.1 = k then (p.1, v) else p) (kd.map fun p => if eqD p.1 (.tup (k.map kD)) = true then (p.1, d) else p)
  | _, _, .nil => .nil
  | _, _, .cons (k := k0) h r => by
    simp only [List.map_cons, eq_keys, decide_eq_true_eq]
    by_cases e : k0 = k
    · rw [if_pos e, if_pos e]; exact .cons hv (RepT.mapPut hv k r)
    · rw [if_neg e, if_neg e]; exact .cons h (RepT.mapPut hv k r)
theorem RepK.put {v : V} {d : D} (hv : Rep K F v d) (k : Key) {kv : List (Key × V)} {kd : List (D × D)} (r : RepK K F kv kd) : RepK K F (putK kv k v) (putD kd (kD k) d) := by
  unfold putK putD
  rw [r.any k]
  split
  · exact r.mapPut hv k
  · exact r.append (.cons hv .nil)
theorem RepT.put {v : V} {d : D} (hv : Rep K F v d) (k : List Key) {kv : List (List Key × V)} {kd : List (D × D)} (r : RepT K F kv kd) : RepT K F (putK kv k v) (putD kd (.tup (k.map kD)) d) := by
  unfold putK putD
  rw [r.any k]
  split
  · exact r.mapPut hv k
  · exact r.append (.cons hv .nil)
theorem RepK.drop (k : Key) : ∀ {kv : List (Key × V)} {kd : List (D × D)}, RepK K F kv kd → RepK K F (dropK kv k) (dropD kd (kD k))
  | _, _, .nil => .nil
  | _, _, .cons (k := k0) h r => by
    have ih := RepK.drop k r
    unfold dropK dropD at ih ⊢
    simp only [List.filter_cons, eq_key]
    by_cases e : k0 = k
    · simpa [e, eq_key] using ih
    · simp only [e, ne_eq, not_false_eq_true, decide_true, decide_false, Bool.not_false, if_true]
      refine .cons h ?_
      simpa [eq_key] using ih
/-- a key's value -/
theorem Rep.key {v : V} {d : D} (h : Rep K F v d) (ok : keyOk false d = true) : ∃ k : Key, d = kD k ∧ v = kV k := by
  cases h with
  | int i => exact ⟨.inl i, rfl, rfl⟩
  | str l => exact ⟨.inr (mkS l), by simp [kD, mkS], rfl⟩
  | _ => cases ok
theorem RepL.keys : ∀ {vs : List V} {ds : List D}, RepL K F vs ds → (ds.all (fun d => match d with | .int _ => true | .str _ => true | _ => false)) = true → ∃ ks : List Key, ds = ks.map kD ∧ vs = ks.map kV
  | _, _, .nil, _ => ⟨[], rfl, rfl⟩
  | _, _, .cons h r, ok => by
    rw [List.all_cons, Bool.and_eq_true] at ok
    obtain ⟨ks, e1, e2⟩ := RepL.keys r ok.2
    obtain ⟨k, e3, e4⟩ := Rep.key (d := _) h (by
      have := ok.1
      revert this
      cases h <;> simp [keyOk])
    exact ⟨k :: ks, by rw [e1, e3]; rfl, by rw [e2, e4]; rfl⟩
theorem Rep.keyT {v : V} {d : D} (h : Rep K F v d) (ok : keyOk true d = true) : ∃ (ks : List Key) (b : Addr), d = .tup (ks.map kD) ∧ v = .ref b ∧ F b = some (.tup (ks.map kV)) := by
  cases h with
  | tup e r =>
    obtain ⟨ks, e1, e2⟩ := r.keys (by simpa [keyOk] using ok)
    exact ⟨ks, _, by rw [e1], rfl, by rw [e, e2]⟩
  | _ => cases ok
theorem Rep.dget {H : Hp} {v y : V} {kd : List (D × D)} {t : Bool} {d : D} (h : Rep K H v (.dct t kd)) (hy : Rep K H y d) (ok : keyOk t d = true) :
    ∃ a, v = .ref a ∧ ∃ o, DGet H a y o ∧ ((o = none ∧ lookD kd d = none) ∨ ∃ w e, o = some w ∧ lookD kd d = some e ∧ Rep K H w e) := by
  cases h with
  | dK e r =>
    obtain ⟨k, e1, e2⟩ := hy.key ok
    subst e1 e2
    refine ⟨_, rfl, _, .inl ⟨_, k, e, rfl, rfl⟩, ?_⟩
    rcases r.look k with ⟨h1, h2⟩ | ⟨w, x, h1, h2, h3⟩
    · exact .inl ⟨h1, h2⟩
    · exact .inr ⟨w, x, h1, h2, h3⟩
  | dT e r =>
    obtain ⟨k, b, e1, e2, e3⟩ := hy.keyT ok
    subst e1 e2
    refine ⟨_, rfl, _, .inr ⟨_, k, b, e, rfl, e3, rfl⟩, ?_⟩
    rcases r.look k with ⟨h1, h2⟩ | ⟨w, x, h1, h2, h3⟩
    · exact .inl ⟨h1, h2⟩
    · exact .inr ⟨w, x, h1, h2, h3⟩
end
end PW

set_option Elab.async false
set_option linter.all false
set_option autoImplicit false
set_option maxRecDepth 100000
set_option maxHeartbeats 4000000
namespace PW
open PySem PySem.Spec PyProof.Rows L2

/-! ### an item -/
def lenOk : D → Prop
  | .str s => s.length ≤ 16777216
  | _ => True
def idxD : D → D → Option D
  | .lst l, .int i => atI l i
  | .tup l, .int i => atI l i
  | .str s, .int i => (atI s i).map fun c => .str [c]
  | .scr ns, .int i => (atI ns i).map .int
  | .dct t kd, k => if keyOk t k = true then lookD kd k else none
  | _, _ => none
def wIx (x y : D) (Q : B → Prop) : Prop := lenOk x ∧ ∃ d, idxD x y = some d ∧ Q (.dat d)

theorem atI_map {α β : Type} (f : α → β) (xs : List α) (i : Int) : atI (xs.map f) i = (atI xs i).map f := by
  unfold atI
  rw [List.length_map]
  cases ixN xs.length i with
  | none => rfl
  | some j => simp
theorem RepL.atI {K : PySem.W.Frag} {F : Hp} {vs : List V} {ds : List D} {i : Int} {d : D} (r : RepL K F vs ds) (h : L2.atI ds i = some d) : ∃ v, L2.atI vs i = some v ∧ Rep K F v d := by
  unfold L2.atI at h ⊢
  rw [r.length]
  cases e : ixN ds.length i with
  | none => rw [e] at h; cases h
  | some j =>
    rw [e] at h
    exact r.get h
theorem Rdb.keyRep {K : PySem.W.Frag} {F H : Hp} {y : V} {d : D} {t : Bool} (hy : Rdb K F H y d) (ok : keyOk t d = true) : Rep K F y d := by
  rcases hy with hy | ⟨a, e, c⟩
  · exact hy
  · cases d with
    | lst l => cases ok
    | dct t l => cases ok
    | _ => exact c.elim
theorem Rdb.dget {K : PySem.W.Frag} {F H : Hp} {v y : V} {t : Bool} {kd : List (D × D)} {d : D} (hx : Rdb K F H v (.dct t kd)) (hy : Rdb K F H y d) (s : Sub F H) (ok : keyOk t d = true) :
    ∃ a, v = .ref a ∧ ∃ o, DGet H a y o ∧ ((o = none ∧ lookD kd d = none) ∨ ∃ w e, o = some w ∧ lookD kd d = some e ∧ Rep K F w e) := by
  have hy := hy.keyRep ok
  cases t with
  | false =>
    obtain ⟨a, kv, ea, h, r⟩ := hx.dK s
    obtain ⟨k, e1, e2⟩ := hy.key ok
    subst e1 e2
    exact ⟨a, ea, _, .inl ⟨kv, k, h, rfl, rfl⟩, r.look k⟩
  | true =>
    obtain ⟨a, kv, ea, h, r⟩ := hx.dT s
    obtain ⟨k, b, e1, e2, e3⟩ := hy.keyT ok
    subst e1 e2
    exact ⟨a, ea, _, .inr ⟨kv, k, b, h, rfl, s.tup e3, rfl⟩, r.look k⟩
section
variable {X : Cx}
abbrev rIxD0 : R2 := fun x y H Q => ∃ a v, x = .ref a ∧ DGet H a y (some v) ∧ Q v H
theorem ix_dict (hu : X.A.units + 1 < cLine) : IxR X rIxD0 := by
  intro value slice pins s σ H x y v u Q I rx ry h hs
  obtain ⟨a, w, rfl, g, q⟩ := h
  cases rx
  exact tail_any (dict_typeIs I g) PySem.F.slot_dict_getitem.lookup (d_getItem hu I g ry fun w' s3 I3 rw' => ⟨w, H, I3, rw', q⟩) hs
abbrev rIxAll (K : PySem.W.Frag) : R2 := fun x y H Q => rIx K x y H Q ∨ rIxD0 x y H Q
theorem ix_all (hu : X.A.units + 1 < cLine) : IxR X (rIxAll X.K) := ix_seq.or (ix_dict hu)
end
section
variable {K : PySem.W.Frag}
theorem k_ix : Op2Ok K (rIxAll K) wIx := by
  intro O G F σ H E x y dx dy Q Q' r hx hy ⟨lo, d, e, q⟩ k
  unfold idxD at e
  split at e
  · obtain ⟨a, vs, rfl, h1, p1⟩ := hx.lst r.f
    obtain ⟨v, h2, p2⟩ := p1.atI e
    exact .inl (.inl ⟨a, vs, _, v, rfl, hy.int, SqL.of h1, h2, k _ _ (.dat r p2 q)⟩)
  · obtain ⟨a, vs, rfl, h1, p1⟩ := hx.tup r.f
    obtain ⟨v, h2, p2⟩ := p1.atI e
    exact .inl (.inr (.inl ⟨a, vs, _, v, rfl, hy.int, SqT.of h1, h2, k _ _ (.dat r p2 q)⟩))
  · rename_i s i
    obtain ⟨c, h2, e2⟩ := Option.map_eq_some_iff.mp e
    subst e2
    refine .inl (.inr (.inr ⟨mkS s, _, c, hx.str, hy.int, ?_, ?_, k _ _ (.dat r (.str [c]) q)⟩))
    · rw [mkS_length, line_eq]; exact lo
    · simpa [mkS] using h2
  · rename_i ns i
    obtain ⟨n, h2, e2⟩ := Option.map_eq_some_iff.mp e
    subst e2
    obtain ⟨a, rfl, h1⟩ := hx.scr r.f
    exact .inl (.inl ⟨a, _, _, .int n, rfl, hy.int, h1, by rw [atI_map, h2]; rfl, k _ _ (.dat r (.int n) q)⟩)
  · rename_i t kd
    split at e
    · rename_i ok
      obtain ⟨a, ea, o, g, ho⟩ := hx.dget hy r.f ok
      rcases ho with ⟨h1, h2⟩ | ⟨w, e2, h1, h2, h3⟩
      · rw [h2] at e; cases e
      · rw [h2] at e; cases e
        subst h1
        exact .inr ⟨a, w, ea, g, k _ _ (.dat r h3 q)⟩
    · cases e
  · cases e
end
end PW

set_option Elab.async false
set_option linter.all false
set_option autoImplicit false
set_option maxRecDepth 100000
set_option maxHeartbeats 4000000
namespace PW
open PySem PySem.Spec PyProof.Rows L2

/-! ### in, not in -/
def flatD : D → Bool
  | .int _ => true | .str _ => true | .bl _ => true | .non => true | _ => false
def anyD (x : D) (l : List D) : Bool := l.any fun z => eqD z x
def inOk : D → D → Prop
  | x, .lst l => (flatD x = true ∧ l.all flatD = true) ∨ (okD x = true ∧ okD (.lst l) = true)
  | x, .tup l => flatD x = true ∧ l.all flatD = true
  | .str [_], .str _ => True
  | x, .dct t _ => keyOk t x = true
  | _, _ => False
def inD : D → D → Bool
  | x, .lst l => anyD x l
  | x, .tup l => anyD x l
  | .str [c], .str s => decide (c ∈ s)
  | x, .dct _ kd => (lookD kd x).isSome
  | _, _ => false
def wIn (x y : D) (Q : B → Prop) : Prop := inOk x y ∧ Q (.dat (.bl (inD x y)))
def wNin (x y : D) (Q : B → Prop) : Prop := inOk x y ∧ Q (.dat (.bl (!inD x y)))
theorem pys_any (x : D) : ∀ l : List D, ((D.pys l).any fun z => PyData.eqv z x.py) = anyD x l
  | [] => rfl
  | d :: l => by
    simp only [D.pys, List.any_cons, anyD, pys_any x l, eqD]
section
variable {K : PySem.W.Frag} {F H : Hp}
theorem Rep.flatV {v : V} {d : D} (h : Rep K F v d) (f : flatD d = true) : L2.flatV v = true := by
  cases h <;> first | rfl | cases f
theorem RepL.flatV : ∀ {vs : List V} {ds : List D}, RepL K F vs ds → ds.all flatD = true → vs.all L2.flatV = true
  | _, _, .nil, _ => rfl
  | _, _, .cons h r, f => by
    rw [List.all_cons, Bool.and_eq_true] at f ⊢
    exact ⟨h.flatV f.1, RepL.flatV r f.2⟩
theorem Rep.eqV {v w : V} {d e : D} (h : Rep K F v d) (g : Rep K F w e) (f : flatD d = true) (f' : flatD e = true) : L2.eqV v w = eqD d e := by
  cases h <;> cases g <;> first | cases f | cases f' | skip
  all_goals (simp [L2.eqV, eqD, D.py, PyData.eqv]) <;> first | rfl | skip
theorem RepL.inV {v : V} {d : D} (h : Rep K F v d) (f : flatD d = true) : ∀ {vs : List V} {ds : List D}, RepL K F vs ds → ds.all flatD = true → L2.inV v vs = anyD d ds
  | _, _, .nil, _ => rfl
  | _, _, .cons h' r, f' => by
    rw [List.all_cons, Bool.and_eq_true] at f'
    have ih := RepL.inV h f r f'.2
    unfold L2.inV anyD at ih ⊢
    rw [List.any_cons, List.any_cons, h'.eqV h f'.1 f, ih]
end
section
variable {X : Cx}
theorem op_inDict (hu : X.A.units + 1 < cLine) : OpR X (compareOp .In) (fun x y H Q => ∃ a o, y = .ref a ∧ DGet H a x o ∧ Q (.bl o.isSome) H) := by
  intro pins s σ H x y v u Q I rx ry h
  obtain ⟨a, o, rfl, g, q⟩ := h
  cases ry
  exact d_in hu I g rx fun s3 I3 => ⟨.bl o.isSome, H, I3, rfl, q⟩
theorem op_ninDict (hu : X.A.units + 1 < cLine) : OpR X (compareOp .NotIn) (fun x y H Q => ∃ a o, y = .ref a ∧ DGet H a x o ∧ Q (.bl (!o.isSome)) H) := by
  intro pins s σ H x y v u Q I rx ry h
  obtain ⟨a, o, rfl, g, q⟩ := h
  cases ry
  exact d_notIn hu I g rx fun s3 I3 => ⟨.bl (!o.isSome), H, I3, rfl, q⟩
abbrev rInAll (K : PySem.W.Frag) : R2 := fun x y H Q => (rInD K x y H Q ∨ rIn K false x y H Q) ∨ rInS x y H Q ∨ ∃ a o, y = .ref a ∧ DGet H a x o ∧ Q (.bl o.isSome) H
abbrev rNinAll (K : PySem.W.Frag) : R2 := fun x y H Q => (rNotInD K x y H Q ∨ rIn K true x y H Q) ∨ rNotInS x y H Q ∨ ∃ a o, y = .ref a ∧ DGet H a x o ∧ Q (.bl (!o.isSome)) H
theorem op_inAll (hu : X.A.units + 65 < cLine) : OpR X (compareOp .In) (rInAll X.K) := ((op_inD hu).or op_in_seq).or (op_inS.or (op_inDict (by omega)))
theorem op_ninAll (hu : X.A.units + 65 < cLine) : OpR X (compareOp .NotIn) (rNinAll X.K) := ((op_notInD hu).or op_notIn_seq).or (op_notInS.or (op_ninDict (by omega)))
end
section
variable {K : PySem.W.Frag}
theorem Rdb.flat {F H : Hp} {v : V} {d : D} (h : Rdb K F H v d) (f : flatD d = true) : Rep K F v d := by
  rcases h with h | ⟨a, e, c⟩
  · exact h
  · cases d with
    | lst l => cases f
    | dct t l => cases f
    | _ => exact c.elim
theorem k_in : Op2Ok K (rInAll K) wIn := by
  intro O G F σ H E x y dx dy Q Q' r hx hy ⟨ok, q⟩ k
  cases dy with
  | lst l =>
    simp only [inOk, inD] at ok q
    rcases ok with ok | ok
    · obtain ⟨a, vs, rfl, h1, p1⟩ := hy.lst r.f
      refine .inl (.inr ⟨a, vs, rfl, .inl (SqL.of h1), (hx.flat ok.1).flatV ok.1, p1.flatV ok.2, ?_⟩)
      rw [if_neg Bool.false_ne_true, p1.inV (hx.flat ok.1) ok.1 ok.2]
      exact k _ _ (.dat r (.bl _) q)
    · have h := hy.dp r.f ok.2
      simp only [D.py] at h
      exact .inl (.inl ⟨dx.py, _, hx.dp r.f ok.1, h, ok.1, by simpa only [okD, D.py] using ok.2, by rw [pys_any]; exact k _ _ (.dat r (.bl _) q)⟩)
  | tup l =>
    simp only [inOk, inD] at ok q
    obtain ⟨a, vs, rfl, h1, p1⟩ := hy.tup r.f
    refine .inl (.inr ⟨a, vs, rfl, .inr (SqT.of h1), (hx.flat ok.1).flatV ok.1, p1.flatV ok.2, ?_⟩)
    rw [if_neg Bool.false_ne_true, p1.inV (hx.flat ok.1) ok.1 ok.2]
    exact k _ _ (.dat r (.bl _) q)
  | str s =>
    unfold inOk at ok
    split at ok
    · rename_i e; cases e
    · rename_i e; cases e
    · rename_i c s' e
      cases e
      simp only [inD] at q
      refine .inr (.inl ⟨c, mkS s, hx.str, hy.str, ?_⟩)
      have e : (mkS s).cps.toList = s := by simp [mkS]
      rw [e]
      exact k _ _ (.dat r (.bl _) q)
    · rename_i e; cases e
    · exact ok.elim
  | dct t kd =>
    simp only [inOk, inD] at ok q
    obtain ⟨a, ea, o, g, ho⟩ := hy.dget hx r.f ok
    refine .inr (.inr ⟨a, o, ea, g, ?_⟩)
    have e : o.isSome = (lookD kd dx).isSome := by
      rcases ho with ⟨h1, h2⟩ | ⟨w, e2, h1, h2, _⟩ <;> rw [h1, h2] <;> rfl
    rw [e]
    exact k _ _ (.dat r (.bl _) q)
  | _ => simp only [inOk] at ok
theorem k_nin : Op2Ok K (rNinAll K) wNin := by
  intro O G F σ H E x y dx dy Q Q' r hx hy ⟨ok, q⟩ k
  cases dy with
  | lst l =>
    simp only [inOk, inD] at ok q
    rcases ok with ok | ok
    · obtain ⟨a, vs, rfl, h1, p1⟩ := hy.lst r.f
      refine .inl (.inr ⟨a, vs, rfl, .inl (SqL.of h1), (hx.flat ok.1).flatV ok.1, p1.flatV ok.2, ?_⟩)
      rw [if_pos rfl, p1.inV (hx.flat ok.1) ok.1 ok.2]
      exact k _ _ (.dat r (.bl _) q)
    · have h := hy.dp r.f ok.2
      simp only [D.py] at h
      exact .inl (.inl ⟨dx.py, _, hx.dp r.f ok.1, h, ok.1, by simpa only [okD, D.py] using ok.2, by rw [pys_any]; exact k _ _ (.dat r (.bl _) q)⟩)
  | tup l =>
    simp only [inOk, inD] at ok q
    obtain ⟨a, vs, rfl, h1, p1⟩ := hy.tup r.f
    refine .inl (.inr ⟨a, vs, rfl, .inr (SqT.of h1), (hx.flat ok.1).flatV ok.1, p1.flatV ok.2, ?_⟩)
    rw [if_pos rfl, p1.inV (hx.flat ok.1) ok.1 ok.2]
    exact k _ _ (.dat r (.bl _) q)
  | str s =>
    unfold inOk at ok
    split at ok
    · rename_i e; cases e
    · rename_i e; cases e
    · rename_i c s' e
      cases e
      simp only [inD] at q
      refine .inr (.inl ⟨c, mkS s, hx.str, hy.str, ?_⟩)
      have e : (mkS s).cps.toList = s := by simp [mkS]
      rw [e]
      exact k _ _ (.dat r (.bl _) q)
    · rename_i e; cases e
    · exact ok.elim
  | dct t kd =>
    simp only [inOk, inD] at ok q
    obtain ⟨a, ea, o, g, ho⟩ := hy.dget hx r.f ok
    refine .inr (.inr ⟨a, o, ea, g, ?_⟩)
    have e : o.isSome = (lookD kd dx).isSome := by
      rcases ho with ⟨h1, h2⟩ | ⟨w, e2, h1, h2, _⟩ <;> rw [h1, h2] <;> rfl
    rw [e]
    exact k _ _ (.dat r (.bl _) q)
  | _ => simp only [inOk] at ok
end

/-! ### slices -/
def cut {α : Type} (l : List α) (lo hi : Option Int) : List α := (l.drop (HT.sIx l.length 0 lo)).take (HT.sIx l.length l.length hi - HT.sIx l.length 0 lo)
def wSl : D → Option Int → Option Int → (B → Prop) → Prop
  | .lst l, lo, hi, Q => Q (.own (.lst (cut l lo hi)))
  | .tup l, lo, hi, Q => Q (.dat (.tup (cut l lo hi)))
  | .str l, lo, hi, Q => l.length ≤ 16777216 ∧ Q (.dat (.str (cut l lo hi)))
  | _, _, _, _ => False
abbrev WP := En → (Option Int → En → Prop) → Prop
def pN : WP := fun E Q => Q none E
def pS (w : WE) : WP := fun E Q => w E fun b E1 => match b with
  | .dat (.int i) => Q (some i) E1
  | _ => False
def wSlice (wo : WO) (lo hi : WP) : WE := fun E Q => wo E fun o E1 => lo E1 fun l E2 => hi E2 fun h E3 => match o.get E3 with
  | some d => wSl d l h fun b => Q b E3
  | _ => False
def tP (K : PySem.W.Frag) (w : WP) : TO := fun σ H Q => ∃ O G F E Q', R K O G F σ H E ∧ w E Q' ∧ ∀ o H' F' E', Sub F F' → R K O G F' σ H' E' → Q' o E' → Q o H'
theorem tP_bind {K : PySem.W.Frag} {w : WP} {O G F : Hp} {σ : L2.St} {H : Hp} {E : En} {Q : Option Int → Hp → Prop} {P : Option Int → En → Prop} (r : R K O G F σ H E) (h : w E P) (k : ∀ o H' F' E', Sub F F' → R K O G F' σ H' E' → P o E' → Q o H') : tP K w σ H Q := ⟨O, G, F, E, P, r, h, k⟩
abbrev PD (X : Cx) (e : Option Expr) (w : WP) : Prop := PO X e (tP X.K w)
section
variable {X : Cx} {e : Expr} {lo hi : Option Expr} {pos p2 : Pos}
theorem pd_of {e : Option Expr} {t : TO} {w : WP} (h : PO X e t) (k : ∀ O G F σ H E (Q : Option Int → En → Prop), R X.K O G F σ H E → w E Q → t σ H fun o H' => ∃ F' E', Sub F F' ∧ R X.K O G F' σ H' E' ∧ Q o E') : PD X e w := ⟨fun pins s σ H Q I hq => by
  obtain ⟨O, G, F, E, Q', r, hw, kk⟩ := hq
  refine thn (h.run pins s σ H _ I (k O G F σ H E Q' r hw)) fun u s' hu => ?_
  obtain ⟨o, H', I', ro, F', E', sb, r', q⟩ := hu
  exact ⟨o, H', I', ro, kk o H' F' E' sb r' q⟩⟩
theorem pd_n : PD X none pN := pd_of po_none fun O G F σ H E Q r q => ⟨F, E, Sub.refl F, r, q⟩
theorem pd_s {w : WE} (h : ED X e w) : PD X (some e) (pS w) := pd_of (po_some h) fun O G F σ H E Q r q => by
  refine tE_bind r q fun v H1 F1 E1 b s1 r1 p1 q1 => ?_
  split at q1
  · rename_i i
    have p := p1.1
    have e : v = .int i := by cases p; rfl
    exact ⟨i, e, F1, E1, s1, r1, q1⟩
  · exact q1.elim
abbrev rSlAll (K : PySem.W.Frag) : V → Option Int → Option Int → Hp → VK → Prop := fun x lo hi H Q => rSlL K x lo hi H Q ∨ rSlA K x lo hi H Q ∨ rSlS x lo hi H Q
theorem sl_all : SlR X (rSlAll X.K) := sl_list.or (sl_tupA.or sl_str)
theorem RepL.cut {K : PySem.W.Frag} {F : Hp} {vs : List V} {ds : List D} (r : RepL K F vs ds) (lo hi : Option Int) : RepL K F (cutV vs lo hi) (PW.cut ds lo hi) := by
  unfold cutV PW.cut
  rw [r.length]
  exact (r.drop _).take _
theorem ed_slice {wo : WO} {wl wh : WP} (he : OD X e wo) (hl : PD X lo wl) (hu : PD X hi wh) : ED X (.Subscript e (.Slice lo hi none p2) pos) (wSlice wo wl wh) := by
  refine ed_of (pe_slice sl_all he hl hu) fun O G F σ H E Q r q => ?_
  refine tO_bind r q fun x H1 F1 E1 o s1 r1 p1 q1 => ?_
  refine tP_bind r1 q1 fun l H2 F2 E2 s2 r2 q2 => ?_
  refine tP_bind r2 q2 fun h H3 F3 E3 s3 r3 q3 => ?_
  split at q3
  · rename_i d eo
    have hx := r3.rdb ((p1.mono s2).mono s3) eo
    have fin : ∀ v H', OutB X.K O G F3 σ E3 (fun b => Q b E3) v H' → ∃ F' E' b, Sub F F' ∧ R X.K O G F' σ H' E' ∧ RR X.K O F' σ H' E' v b ∧ Q b E' := fun v H' ⟨F', b, s4, r4, p4, q4⟩ => ⟨F', E3, b, ((s1.trans s2).trans s3).trans s4, r4, p4, q4⟩
    cases d with
    | lst ds =>
      obtain ⟨a, vs, rfl, h1, p⟩ := hx.lst r3.f
      exact .inl ⟨a, vs, rfl, SqL.of h1, fun p' hp => fin _ _ (.lst r3 hp (p.cut l h) q3)⟩
    | tup tl =>
      have hx' := hx
      obtain ⟨a, vs, rfl, h1, p⟩ := hx.tup r3.f
      refine .inr (.inl ⟨a, vs, rfl, SqT.of h1, fun z => ?_, fun _ p' hp => fin _ _ (.tup r3 hp (p.cut l h) q3)⟩)
      have ec : PW.cut tl l h = tl := by
        unfold PW.cut
        rw [← p.length, z.1, z.2, List.drop_zero, Nat.sub_zero, p.length, List.take_length]
      have q4 : Q (.dat (.tup (PW.cut tl l h))) E3 := q3
      rw [ec] at q4
      rcases hx' with hx' | ⟨_, _, c⟩
      · exact fin _ _ (.dat r3 hx' q4)
      · exact c.elim
    | str tl =>
      refine .inr (.inr ⟨mkS tl, hx.str, by rw [mkS_length, line_eq]; exact q3.1, ?_⟩)
      have ec : cutS (mkS tl) l h = mkS (PW.cut tl l h) := by
        unfold cutS PW.cut
        rw [mkS_length]
      rw [ec]
      exact fin _ _ (.dat r3 (.str _) q3.2)
    | _ => exact (show False from q3).elim
  · exact q3.elim
/-- xs[::-1] -/
def wRev : D → (B → Prop) → Prop
  | .lst l, Q => Q (.own (.lst l.reverse))
  | _, _ => False
theorem ed_rev {k : Nat} {p1 p2 p3 pos : Pos} {wo : WO} (he : OD X e wo) : ED X (.Subscript e (.Slice none none (some (.UnaryOp .USub (.Constant (.int 1) k p1) p2)) p3) pos) (wUn wRev wo) := by
  refine ed_of (pe_revL he) (ok_un (r := fun x H Q => ∃ a xs, x = .ref a ∧ SqL X.K H a xs ∧ ∀ p, H p = none → Q (.ref p) (upd H p (.lst xs.reverse))) ?_)
  intro O G F σ H E x dx Q Q' r hx q k
  unfold wRev at q
  split at q
  · obtain ⟨a, vs, rfl, h1, p⟩ := hx.lst r.f
    exact ⟨a, vs, rfl, SqL.of h1, fun p' hp => k _ _ (.lst r hp p.reverse q)⟩
  · exact q.elim
theorem ed_ix {a b : Expr} {wa wb : WO} (hu : X.A.units + 1 < cLine) (ha : OD X a wa) (hb : OD X b wb) (hs : PlainIx b) : ED X (.Subscript a b pos) (wOp wIx wa wb) := ed_of (pe_ix (ix_all hu) ha hb hs) (ok_op k_ix)
end
end PW

set_option Elab.async false
set_option linter.all false
set_option autoImplicit false
set_option maxRecDepth 100000
set_option maxHeartbeats 4000000
namespace PW
open PySem PySem.Spec PyProof.Rows L2

/-! ### calls of built-in functions -/
def wLen : D → (B → Prop) → Prop
  | .lst l, Q => Q (.dat (.int l.length))
  | .tup l, Q => Q (.dat (.int l.length))
  | .str l, Q => l.length ≤ 16777216 ∧ Q (.dat (.int l.length))
  | .dct _ l, Q => Q (.dat (.int l.length))
  | .scr l, Q => Q (.dat (.int l.length))
  | _, _ => False
def wInt : D → (B → Prop) → Prop
  | .int i, Q => Q (.dat (.int i))
  | .bl b, Q => Q (.dat (.int (if b = true then 1 else 0)))
  | _, _ => False
def wStr : D → (B → Prop) → Prop
  | .int i, Q => i.natAbs.log2 < 1920 ∧ Q (.dat (.str (toString i : Str).cps.toList))
  | .str s, Q => Q (.dat (.str s))
  | _, _ => False
def wMax2 : D → D → (B → Prop) → Prop
  | .int i, .int j, Q => Q (.dat (.int (max i j)))
  | _, _, _ => False
def wMin2 : D → D → (B → Prop) → Prop
  | .int i, .int j, Q => Q (.dat (.int (min i j)))
  | _, _, _ => False
def wSum : D → (B → Prop) → Prop
  | .lst l, Q => ∃ ns : List Int, l = ns.map .int ∧ Q (.dat (.int ns.sum))
  | _, _ => False
def wAll : D → (B → Prop) → Prop
  | .lst l, Q => ∃ ns : List Bool, l = ns.map .bl ∧ Q (.dat (.bl (ns.all id)))
  | _, _ => False
def wAny : D → (B → Prop) → Prop
  | .lst l, Q => ∃ ns : List Bool, l = ns.map .bl ∧ Q (.dat (.bl (ns.any id)))
  | _, _ => False
def wMax : D → (B → Prop) → Prop
  | .lst l, Q => ∃ ns : List Int, l = ns.map .int ∧ 0 < ns.length ∧ ∀ m, m ∈ ns → (∀ y, y ∈ ns → y ≤ m) → Q (.dat (.int m))
  | _, _ => False
def wMin : D → (B → Prop) → Prop
  | .lst l, Q => ∃ ns : List Int, l = ns.map .int ∧ 0 < ns.length ∧ ∀ m, m ∈ ns → (∀ y, y ∈ ns → m ≤ y) → Q (.dat (.int m))
  | _, _ => False
def wList : D → (B → Prop) → Prop
  | .lst l, Q => Q (.own (.lst l))
  | .tup l, Q => Q (.own (.lst l))
  | _, _ => False
def wTuple : D → (B → Prop) → Prop
  | .lst l, Q => Q (.dat (.tup l))
  | .tup l, Q => Q (.dat (.tup l))
  | _, _ => False
section
variable {X : Cx} {e e2 : Expr} {pos p : Pos} {x : Str} {id T : String}
theorem ed_call1 {r : List V → Hp → VK → Prop} {wr : D → (B → Prop) → Prop} {wo : WO} (hc : CallR X (.builtin id) r) (hk : Op1Ok X.K (fun x H Q => r [x] H Q) wr) (hg : Gl X x) (hm : X.mg x = none) (hv : bootBuiltins x = some (.builtin id)) (ha : OD X e wo)
    (hn : x ≠ "__name__" := by decide) (hdb : (x == ("__debug__" : Str)) = false := by decide) (hs : starEach [e] X.env = (false, eval e X.env) :: starEach [] X.env := by rfl) : ED X (.Call (.Name x p) [e] [] pos) (wUn wr wo) :=
  ed_of (pe_callB hc hg hm hv (pa_cons ha pa_nil hs) hn hdb hs) (ok_un hk)
theorem ed_callT1 {r : List V → Hp → VK → Prop} {wr : D → (B → Prop) → Prop} {wo : WO} (hc : CallR X (.type T) r) (hk : Op1Ok X.K (fun x H Q => r [x] H Q) wr) (hg : Gl X x) (hm : X.mg x = none) (hv : bootBuiltins x = some (.type T)) (ha : OD X e wo)
    (hn : x ≠ "__name__" := by decide) (hdb : (x == ("__debug__" : Str)) = false := by decide) (hs : starEach [e] X.env = (false, eval e X.env) :: starEach [] X.env := by rfl) : ED X (.Call (.Name x p) [e] [] pos) (wUn wr wo) :=
  ed_of (pe_callTy hc hg hm hv (pa_cons ha pa_nil hs) hn hdb hs) (ok_un hk)
theorem ed_call2 {r : List V → Hp → VK → Prop} {wr : D → D → (B → Prop) → Prop} {wa wb : WO} (hc : CallR X (.builtin id) r) (hk : Op2Ok X.K (fun x y H Q => r [x, y] H Q) wr) (hg : Gl X x) (hm : X.mg x = none) (hv : bootBuiltins x = some (.builtin id)) (ha : OD X e wa) (hb : OD X e2 wb)
    (hn : x ≠ "__name__" := by decide) (hdb : (x == ("__debug__" : Str)) = false := by decide) (hs : starEach [e, e2] X.env = (false, eval e X.env) :: starEach [e2] X.env := by rfl) (hs2 : starEach [e2] X.env = (false, eval e2 X.env) :: starEach [] X.env := by rfl)
    (hpl : (backTo pos (starEach [e2] X.env)).any (·.1) = false := by rfl) : ED X (.Call (.Name x p) [e, e2] [] pos) (wOp wr wa wb) :=
  ed_of (pe_callB hc hg hm hv (pa_cons ha (pa_cons hb pa_nil hs2) hs) hn hdb hs hpl) (ok_op hk)
end
section
variable {K : PySem.W.Frag} {X : Cx}
abbrev rLenAll (K : PySem.W.Frag) : List V → Hp → VK → Prop := fun xs H Q => (∃ x n, xs = [x] ∧ LenV K x H n ∧ Q (.int n) H) ∨ ∃ a n, xs = [.ref a] ∧ ((∃ kv, Rd H a (.dK kv) ∧ n = kv.length) ∨ ∃ kv, Rd H a (.dT kv) ∧ n = kv.length) ∧ Q (.int (n : Nat)) H
theorem call_lenAll : CallR X (.builtin "len") (rLenAll X.K) := by
  intro pins s σ H xs us Q I r h
  rcases h with h | ⟨a, n, rfl, hd, q⟩
  · exact call_len pins s σ H xs us Q I r h
  · obtain ⟨u, rfl, ru⟩ := vals1 r
    cases ru
    rcases hd with ⟨kv, hd, e⟩ | ⟨kv, hd, e⟩
    · subst e
      exact d_len I hd fun t s' I' => ⟨.int kv.length, H, I', ⟨t, rfl⟩, q⟩
    · subst e
      obtain ⟨hz, hS, xs, rel, dd⟩ := dt_rd I.hok hd
      have hlen : kv.length = xs.length := Paired.length rel
      have hl := line63
      refine call_len_dictH hS dd (by rw [← hlen]; rw [sizeLine_eq] at hz; omega) ?_
      exact ⟨.int kv.length, H, (I.tok _).tok _, ⟨_, by rw [hlen]⟩, q⟩
theorem k_len : Op1Ok K (fun x H Q => rLenAll K [x] H Q) wLen := by
  intro O G F σ H E x dx Q Q' r hx q k
  cases dx with
  | lst l =>
    obtain ⟨a, vs, rfl, h1, p⟩ := hx.lst r.f
    refine .inl ⟨_, l.length, rfl, .inl ⟨vs, SqL.of h1, p.length.symm⟩, k _ _ (.dat r (.int _) q)⟩
  | tup l =>
    obtain ⟨a, vs, rfl, h1, p⟩ := hx.tup r.f
    refine .inl ⟨_, l.length, rfl, .inr ⟨vs, SqT.of h1, p.length.symm⟩, k _ _ (.dat r (.int _) q)⟩
  | scr l =>
    obtain ⟨a, rfl, h1⟩ := hx.scr r.f
    refine .inl ⟨_, l.length, rfl, .inl ⟨_, h1, by simp⟩, k _ _ (.dat r (.int _) q)⟩
  | str l =>
    have e := hx.str
    subst e
    refine .inl ⟨_, l.length, rfl, ⟨by rw [mkS_length, line_eq]; exact q.1, (mkS_length l).symm⟩, k _ _ (.dat r (.int _) q.2)⟩
  | dct t l =>
    cases t with
    | false =>
      obtain ⟨a, kv, rfl, h1, p⟩ := hx.dK r.f
      exact .inr ⟨a, l.length, rfl, .inl ⟨kv, h1, p.length.symm⟩, k _ _ (.dat r (.int _) q)⟩
    | true =>
      obtain ⟨a, kv, rfl, h1, p⟩ := hx.dT r.f
      exact .inr ⟨a, l.length, rfl, .inr ⟨kv, h1, p.length.symm⟩, k _ _ (.dat r (.int _) q)⟩
  | _ => exact (show False from q).elim
theorem k_int : Op1Ok K (fun x H Q => (∃ i, [x] = [V.int i] ∧ Q (.int i) H) ∨ ∃ k, [x] = [V.bl k] ∧ Q (.int (if k = true then 1 else 0)) H) wInt := by
  intro O G F σ H E x dx Q Q' r hx q k
  cases dx with
  | int i =>
    have e := hx.int
    subst e
    exact .inl ⟨i, rfl, k _ _ (.dat r (.int _) q)⟩
  | bl b =>
    have e := hx.bl
    subst e
    exact .inr ⟨b, rfl, k _ _ (.dat r (.int _) q)⟩
  | _ => exact (show False from q).elim
theorem max_if (i j : Int) : (if j > i then j else i) = max i j := by
  by_cases h : j > i
  · rw [if_pos h, Int.max_eq_right (by omega)]
  · rw [if_neg h, Int.max_eq_left (by omega)]
theorem min_if (i j : Int) : (if j < i then j else i) = min i j := by
  by_cases h : j < i
  · rw [if_pos h, Int.min_eq_right (by omega)]
  · rw [if_neg h, Int.min_eq_left (by omega)]
theorem k_max2 : Op2Ok K (fun x y H Q => ∃ i j, [x, y] = [V.int i, V.int j] ∧ Q (.int (if j > i then j else i)) H) wMax2 := by
  intro O G F σ H E x y dx dy Q Q' r hx hy q k
  unfold wMax2 at q
  split at q
  · rename_i i j
    have e := hx.int
    have e' := hy.int
    subst e e'
    exact ⟨i, j, rfl, by rw [max_if]; exact k _ _ (.dat r (.int _) q)⟩
  · exact q.elim
theorem k_min2 : Op2Ok K (fun x y H Q => ∃ i j, [x, y] = [V.int i, V.int j] ∧ Q (.int (if j < i then j else i)) H) wMin2 := by
  intro O G F σ H E x y dx dy Q Q' r hx hy q k
  unfold wMin2 at q
  split at q
  · rename_i i j
    have e := hx.int
    have e' := hy.int
    subst e e'
    exact ⟨i, j, rfl, by rw [min_if]; exact k _ _ (.dat r (.int _) q)⟩
  · exact q.elim
theorem k_sum : Op1Ok K (fun x H Q => rSum K [x] H Q) wSum := by
  intro O G F σ H E x dx Q Q' r hx q k
  cases dx with
  | lst l =>
    obtain ⟨ns, e, q⟩ := q
    subst e
    obtain ⟨a, vs, rfl, h1, p⟩ := hx.lst r.f
    have ev := p.ints
    subst ev
    exact ⟨a, ns, rfl, SqL.of h1, k _ _ (.dat r (.int _) q)⟩
  | _ => exact (show False from q).elim
theorem k_all : Op1Ok K (fun x H Q => rAll K [x] H Q) wAll := by
  intro O G F σ H E x dx Q Q' r hx q k
  cases dx with
  | lst l =>
    obtain ⟨ns, e, q⟩ := q
    subst e
    obtain ⟨a, vs, rfl, h1, p⟩ := hx.lst r.f
    have ev := p.bools
    subst ev
    exact ⟨a, ns, rfl, SqL.of h1, k _ _ (.dat r (.bl _) q)⟩
  | _ => exact (show False from q).elim
theorem k_any : Op1Ok K (fun x H Q => rAny K [x] H Q) wAny := by
  intro O G F σ H E x dx Q Q' r hx q k
  cases dx with
  | lst l =>
    obtain ⟨ns, e, q⟩ := q
    subst e
    obtain ⟨a, vs, rfl, h1, p⟩ := hx.lst r.f
    have ev := p.bools
    subst ev
    exact ⟨a, ns, rfl, SqL.of h1, k _ _ (.dat r (.bl _) q)⟩
  | _ => exact (show False from q).elim
theorem k_max : Op1Ok K (fun x H Q => rMax K [x] H Q) wMax := by
  intro O G F σ H E x dx Q Q' r hx q k
  cases dx with
  | lst l =>
    obtain ⟨ns, e, h0, q⟩ := q
    subst e
    obtain ⟨a, vs, rfl, h1, p⟩ := hx.lst r.f
    have ev := p.ints
    subst ev
    exact ⟨a, ns, rfl, SqL.of h1, h0, fun m hm hle => k _ _ (.dat r (.int _) (q m hm hle))⟩
  | _ => exact (show False from q).elim
theorem k_min : Op1Ok K (fun x H Q => rMin K [x] H Q) wMin := by
  intro O G F σ H E x dx Q Q' r hx q k
  cases dx with
  | lst l =>
    obtain ⟨ns, e, h0, q⟩ := q
    subst e
    obtain ⟨a, vs, rfl, h1, p⟩ := hx.lst r.f
    have ev := p.ints
    subst ev
    exact ⟨a, ns, rfl, SqL.of h1, h0, fun m hm hle => k _ _ (.dat r (.int _) (q m hm hle))⟩
  | _ => exact (show False from q).elim
theorem k_list : Op1Ok K (fun x H Q => ∃ p ys, [x] = [V.ref p] ∧ (SqL K H p ys ∨ SqT K H p ys) ∧ ∀ l, H l = none → Q (.ref l) (upd H l (.lst ys))) wList := by
  intro O G F σ H E x dx Q Q' r hx q k
  cases dx with
  | lst l =>
    obtain ⟨a, vs, rfl, h1, p⟩ := hx.lst r.f
    exact ⟨a, vs, rfl, .inl (SqL.of h1), fun c hc => k _ _ (.lst r hc p q)⟩
  | tup l =>
    obtain ⟨a, vs, rfl, h1, p⟩ := hx.tup r.f
    exact ⟨a, vs, rfl, .inr (SqT.of h1), fun c hc => k _ _ (.lst r hc p q)⟩
  | _ => exact (show False from q).elim
theorem k_tuple : Op1Ok K (fun x H Q => ∃ p ys, [x] = [V.ref p] ∧ ((SqL K H p ys ∧ ∀ l, H l = none → Q (.ref l) (upd H l (.tup ys))) ∨ (SqT K H p ys ∧ Q (.ref p) H))) wTuple := by
  intro O G F σ H E x dx Q Q' r hx q k
  cases dx with
  | lst l =>
    obtain ⟨a, vs, rfl, h1, p⟩ := hx.lst r.f
    exact ⟨a, vs, rfl, .inl ⟨SqL.of h1, fun c hc => k _ _ (.tup r hc p q)⟩⟩
  | tup l =>
    have hx' := hx
    obtain ⟨a, vs, rfl, h1, p⟩ := hx.tup r.f
    rcases hx' with hx' | ⟨_, _, c⟩
    · exact ⟨a, vs, rfl, .inr ⟨SqT.of h1, k _ _ (.dat r hx' q)⟩⟩
    · exact c.elim
  | _ => exact (show False from q).elim
end

/-! ### statements -/
structure EndP where
  nx : En → Prop
  rt : B → En → Prop
  bk : En → Prop := fun _ => False
  ct : En → Prop := fun _ => False
abbrev WS := EndP → En → Prop
structure EndOk (K : PySem.W.Frag) (O G : Hp) (D : Ends) (D' : EndP) : Prop where
  nx : ∀ F σ H E, R K O G F σ H E → D'.nx E → D.nx σ H
  rt : ∀ F σ H E v b, R K O G F σ H E → RR K O F σ H E v b → D'.rt b E → D.rt v H
  bk : ∀ F σ H E, R K O G F σ H E → D'.bk E → D.bk σ H
  ct : ∀ F σ H E, R K O G F σ H E → D'.ct E → D.ct σ H
def SOk (K : PySem.W.Frag) (t : TS) (w : WS) : Prop := ∀ O G F σ H E D D', EndOk K O G D D' → R K O G F σ H E → w D' E → t D σ H
def tS (K : PySem.W.Frag) (w : WS) : TS := fun D σ H => ∃ O G F E D', EndOk K O G D D' ∧ R K O G F σ H E ∧ w D' E
theorem tS_ok {K : PySem.W.Frag} {w : WS} : SOk K (tS K w) w := fun O G F σ H E D D' e r h => ⟨O, G, F, E, D', e, r, h⟩
abbrev SD (X : Cx) (st : Stmt) (w : WS) : Prop := PS X st (tS X.K w)
abbrev BD (X : Cx) (sts : List Stmt) (w : WS) : Prop := PSs X sts (tS X.K w)
theorem sd_of {X : Cx} {st : Stmt} {t : TS} {w : WS} (h : PS X st t) (k : SOk X.K t w) : SD X st w := ⟨fun pins s σ H D I ⟨O, G, F, E, D', e, r, hw⟩ => h.run pins s σ H D I (k O G F σ H E D D' e r hw)⟩
theorem bd_of {X : Cx} {st : List Stmt} {t : TS} {w : WS} (h : PSs X st t) (k : SOk X.K t w) : BD X st w := ⟨fun pins s σ H D I ⟨O, G, F, E, D', e, r, hw⟩ => h.run pins s σ H D I (k O G F σ H E D D' e r hw)⟩

def sNext : WS := fun D E => D.nx E
def sBreak : WS := fun D E => D.bk E
def sCont : WS := fun D E => D.ct E
def sSeq (a b : WS) : WS := fun D E => a { D with nx := b D } E
def sIf (t : WT) (a b : WS) : WS := fun D E => t E fun k E1 => if k = true then a D E1 else b D E1
def sSet (i : Nat) (w : WE) : WS := fun D E => w E fun b E1 => D.nx (E1.set i (some b))
def sRet (w : WE) : WS := fun D E => w E D.rt
def sRetN : WS := fun D E => D.rt (.dat .non) E
def sExpr (w : WE) : WS := fun D E => w E fun _ E1 => D.nx E1
def sNever : WS := fun _ _ => False

section
variable {X : Cx} {st : Stmt} {rest : List Stmt} {pos : Pos} {e c : Expr}
theorem EndOk.up {K : PySem.W.Frag} {O G F : Hp} {D : Ends} {D' : EndP} (h : EndOk K O G D D') (s : Sub G F) : EndOk K O F D D' :=
  ⟨fun F' σ H E r => h.nx F' σ H E ⟨s.trans r.g, r.f, r.o, r.len, r.at_, r.nd⟩, fun F' σ H E v b r => h.rt F' σ H E v b ⟨s.trans r.g, r.f, r.o, r.len, r.at_, r.nd⟩,
    fun F' σ H E r => h.bk F' σ H E ⟨s.trans r.g, r.f, r.o, r.len, r.at_, r.nd⟩, fun F' σ H E r => h.ct F' σ H E ⟨s.trans r.g, r.f, r.o, r.len, r.at_, r.nd⟩⟩
theorem bd_nil : BD X [] sNext := bd_of pss_nil fun O G F σ H E D D' e r h => e.nx _ _ _ _ r h
theorem bd_cons {a b : WS} (h1 : SD X st a) (h2 : BD X rest b) : BD X (st :: rest) (sSeq a b) := bd_of (pss_cons h1 h2) fun O G F σ H E D D' e r h =>
  ⟨O, G, F, E, { D' with nx := b D' }, ⟨fun F' σ' H' E' r' h' => ⟨O, G, F', E', D', e, r', h'⟩, e.rt, e.bk, e.ct⟩, r, h⟩
theorem bd_one {a : WS} (h1 : SD X st a) : BD X [st] a := ⟨(pss_one h1).run⟩
theorem sd_pass : SD X (.Pass pos) sNext := sd_of ps_pass fun O G F σ H E D D' e r h => e.nx _ _ _ _ r h
theorem sd_break : SD X (.Break pos) sBreak := sd_of ps_break fun O G F σ H E D D' e r h => e.bk _ _ _ _ r h
theorem sd_cont : SD X (.Continue pos) sCont := sd_of ps_continue fun O G F σ H E D D' e r h => e.ct _ _ _ _ r h
theorem sd_doc {x j pos pos'} : SD X (.Expr (.Constant (.str x) j pos) pos') sNext := sd_of ps_doc fun O G F σ H E D D' e r h => e.nx _ _ _ _ r h
theorem sd_expr {w : WE} (he : ED X e w) (hs : swapsWith e none pos.line X.env = pure false := by rfl) : SD X (.Expr e pos) (sExpr w) := sd_of (ps_expr he hs) fun O G F σ H E D D' en r h =>
  tE_bind r h fun v H' F' E' b s r' p q => en.nx _ _ _ _ r' q
theorem sd_ret {w : WE} (he : ED X e w) : SD X (.Return (some e) pos) (sRet w) := sd_of (ps_ret he) fun O G F σ H E D D' en r h =>
  tE_bind r h fun v H' F' E' b s r' p q => en.rt _ _ _ _ _ _ r' p q
theorem sd_retN : SD X (.Return none pos) sRetN := sd_of ps_retN fun O G F σ H E D D' en r h => en.rt _ _ _ _ _ _ r (datRR .non) h
theorem sd_if {a b : List Stmt} {t : WT} {wa wb : WS} (hc : TD X c t) (ha : BD X a wa) (hb : BD X b wb) : SD X (.If c a b pos) (sIf t wa wb) := sd_of (ps_if hc ha hb) fun O G F σ H E D D' en r h => by
  refine tT_bind r h fun b H1 F1 E1 s1 r1 q1 => ?_
  cases b with
  | true => exact ⟨O, G, F1, E1, D', en, r1, q1⟩
  | false => exact ⟨O, G, F1, E1, D', en, r1, q1⟩
theorem sd_set {i : Nat} {x : Str} {w : WE} {pos' : Pos} (hN : X.N.Nodup) (hi : X.N[i]? = some x) (hx : Loc X.env.scope x) (he : ED X e w) (hs : swapsWith e (some (.Name x pos')) pos.line X.env = pure false := by rfl) (hf : X.fn x = true ∨ X.env.scope.names.lookup x = some .local := by first | exact .inl rfl | exact .inr rfl | assumption) :
    SD X (.Assign [.Name x pos'] e pos) (sSet i w) := sd_of (ps_set hN hi hx he hs hf) fun O G F σ H E D D' en r h =>
  tE_bind r h fun v H' F' E' b s r' p q => en.nx _ _ _ _ (r'.set i p) q
theorem sd_never : SD X st sNever := sd_of ps_never fun O G F σ H E D D' en r h => h.elim
theorem bd_never {sts : List Stmt} : BD X sts sNever := bd_of pss_never fun O G F σ H E D D' en r h => h.elim

/-! ### while -/
/-- W: what holds ahead of each turn, with a number that falls -/
def sWhile (t : WT) (a : WS) : WS := fun D E => ∃ W : Nat → En → Prop, (∃ m, W m E) ∧ ∀ m E, W m E → t E fun b E1 => if b = true then
  a { D with nx := fun E' => ∃ m', m' < m ∧ W m' E', ct := fun E' => ∃ m', m' < m ∧ W m' E', bk := D.nx } E1 else D.nx E1
theorem sd_while {body : List Stmt} {t : WT} {a : WS} (hp : PassesOwn (model X.prog X.w) X.A X.env X.xe) (hc : TD X c t) (hb : BD X body a) : SD X (.While c body [] pos) (sWhile t a) := sd_of (ps_while hp hc hb) fun O G F σ H E D D' en r ⟨W, ⟨m0, w0⟩, turn⟩ => by
  refine ⟨fun m σ H => ∃ F E, R X.K O G F σ H E ∧ W m E, ⟨m0, F, E, r, w0⟩, fun m σ H ⟨F, E, r, w⟩ => ?_⟩
  refine tT_bind r (turn m E w) fun b H1 F1 E1 s1 r1 q1 => ?_
  cases b with
  | false => exact en.nx _ _ _ _ r1 q1
  | true =>
    refine ⟨fun σ' H' => ∃ m', m' < m ∧ ∃ F E, R X.K O G F σ' H' E ∧ W m' E, fun σ' H' ⟨m', l, h⟩ => ⟨m', l, h⟩, O, G, F1, E1, { D' with nx := fun E' => ∃ m', m' < m ∧ W m' E', ct := fun E' => ∃ m', m' < m ∧ W m' E', bk := D'.nx }, ⟨?_, en.rt, ?_, ?_⟩, r1, q1⟩
    · rintro F' σ' H' E' r' ⟨m', l, w'⟩
      exact ⟨m', l, F', E', r', w'⟩
    · intro F' σ' H' E' r' w'
      exact en.nx _ _ _ _ r' w'
    · rintro F' σ' H' E' r' ⟨m', l, w'⟩
      exact ⟨m', l, F', E', r', w'⟩
end

/-! ### functions -/
abbrev FS := List D → (B → Prop) → Prop
abbrev PFS := D → List D → (B → D → Prop) → Prop
def spF (K : PySem.W.Frag) (fs : FS) : Sp := fun vs H Q _ => ∃ G ds P, Sub G H ∧ RepL K G vs ds ∧ fs ds P ∧
  ∀ b v F' H', P b → Sub G F' → Sub F' H' → (∀ a u, G a = none → H a = some u → H' a = some u ∧ (F' a = none ∨ isTup u = true)) → RB K H F' H' v b → Q v H'
/-- the first argument a list or dict of the caller's that may change -/
def spP (K : PySem.W.Frag) (fs : PFS) : Sp := fun vs H Q _ => ∃ G p d ws ds P, vs = .ref p :: ws ∧ G p = none ∧ Sub G H ∧ Cell K G H p d ∧ RepL K G ws ds ∧ fs d ds P ∧
  ∀ b d' v F' H', P b d' → Sub G F' → Sub F' H' → (∀ a u, a ≠ p → G a = none → H a = some u → H' a = some u ∧ (F' a = none ∨ isTup u = true)) → F' p = none → Cell K F' H' p d' → RB K H F' H' v b → Q v H'
def wCall (fs : FS) (a : WA) : WE := fun E Q => a E fun ds E1 => fs ds fun b => Q b E1
def hasE (E : En) (i : Nat) : Prop := match E[i]? with
  | some (some _) => True
  | _ => False
def wCallP (i : Nat) (fs : PFS) (a : WA) : WE := fun E Q => hasE E i ∧ a E fun ds E1 => match E1[i]? with
  | some (some b) => b.mu = true ∧ fs b.d ds fun c d' => Q c (E1.set i (some (b.put d')))
  | _ => False
theorem hasE_of {E : En} {i : Nat} (h : hasE E i) : ∃ b, E[i]? = some (some b) := by
  unfold hasE at h
  split at h
  · rename_i b e; exact ⟨b, e⟩
  · exact h.elim
section
variable {K : PySem.W.Frag} {O G F : Hp} {σ : L2.St} {H : Hp} {E : En}
theorem RB.toO {O' F' H' : Hp} {v : V} {b : B} (q : RB K O F' H' v b) (h : ∀ a, ownA v b = some a → O' a = none) : RB K O' F' H' v b := by
  cases b with
  | dat d => exact q
  | own d => obtain ⟨a, e, n, o, c⟩ := q; subst e; exact ⟨a, rfl, n, h a rfl, c⟩
  | par a d => obtain ⟨e, n, o, c⟩ := q; subst e; exact ⟨rfl, n, h a rfl, c⟩
theorem call_core {F1 : Hp} {fs : FS} {vs : List V} {ds : List D} {Ex : XK} {Q : B → En → Prop} (s1 : Sub F F1) (r1 : R K O G F1 σ H E) (p1 : RepL K F1 vs ds) (q1 : fs ds fun b => Q b E) :
    spF K fs vs H (fun v H' => ∃ F' E' b, Sub F F' ∧ R K O G F' σ H' E' ∧ RR K O F' σ H' E' v b ∧ Q b E') Ex := by
  refine ⟨F1, ds, _, r1.f, p1, q1, fun b v F' H' hq s2 f2 k q => ?_⟩
  refine ⟨F', E, b, s1.trans s2, r1.step s2 f2 (fun c u e => ?_) (fun c w => ?_), ⟨q.toO fun c e => r1.oNone ?_, fun c e => r1.notOwned ?_⟩, hq⟩
  · rcases (r1.o c u e).2 with z | z
    · exact k c u z (r1.o c u e).1
    · cases hF : F1 c with
      | none => exact k c u hF (r1.o c u e).1
      | some x =>
        rcases r1.f c x hF with e2 | ⟨_, o, e2⟩
        · rw [(r1.o c u e).1] at e2; cases e2
          refine ⟨?_, .inr z⟩
          cases u <;> first | exact f2.tup (s2.tup hF) | cases z
        · rw [(r1.o c u e).1] at e2; cases e2; cases z
  · obtain ⟨n, _, u, e, t⟩ := r1.owned w
    obtain ⟨h1, h2⟩ := k c u n e
    rcases h2 with h2 | h2
    · exact ⟨h2, h1.trans e.symm⟩
    · rw [t] at h2; cases h2
  · exact (q.own e).2.2.1
  · exact (q.own e).2.2.1
theorem ok_call {fs : FS} {a : WA} {Ex : XK} : EOk K (tCall (spF K fs) [] Ex (tA K a)) (wCall fs a) := fun O G F σ H E Q r q => by
  refine tA_bind r q fun vs H1 F1 E1 ds s1 r1 p1 q1 => ?_
  rw [List.append_nil]
  exact call_core s1 r1 p1 q1
theorem ok_call0 {fs : FS} {Ex : XK} : EOk K (tCall (spF K fs) [] Ex tNil) (wCall fs aN) := fun O G F σ H E Q r q => by
  show spF K fs ([] ++ []) H _ Ex
  exact call_core (Sub.refl F) r .nil q
theorem Owned.back {i : Nat} {b b' : B} {a : Addr} (h1 : E[i]? = some (some b)) (hb : ∀ v, ownA v b' = some a → ownA v b = some a) (h : Owned σ (E.set i (some b')) a) : Owned σ E a := by
  obtain ⟨j, c, w, e1, e2, e3⟩ := h
  rcases getset e1 with ⟨e, e', _⟩ | ⟨_, e1⟩
  · cases e'
    subst e
    exact ⟨j, b, w, h1, e2, hb w e3⟩
  · exact ⟨j, c, w, e1, e2, e3⟩
theorem ownA_put {v : V} {b : B} {d : D} {a : Addr} (h : ownA v (b.put d) = some a) : ownA v b = some a := by
  cases b <;> cases v <;> first | exact h | cases h
/-- behind a callee that may have changed the cell in slot i -/
theorem R.after {i : Nat} {b : B} {p : Addr} {d : D} {F' H' : Hp} (r : R K O G F σ H E) (h1 : E[i]? = some (some b)) (h2 : σ[i]? = some (some (.ref p))) (h3 : ownA (.ref p) b = some p) (s : Sub F F') (f : Sub F' H')
    (k : ∀ a u, a ≠ p → F a = none → H a = some u → H' a = some u ∧ (F' a = none ∨ isTup u = true)) (n : F' p = none) (c : Cell K F' H' p d) : R K O G F' σ H' (E.set i (some (b.put d))) := by
  have hp := r.owned ⟨i, b, _, h1, h2, h3⟩
  refine ⟨r.g.trans s, f, fun a u e => ?_, by rw [List.length_set]; exact r.len, fun j x e => ?_, fun j l a bj bl v w e1 e2 e3 e4 e5 e6 => ?_⟩
  · have z : a ≠ p := fun z => by subst z; rw [hp.2.1] at e; cases e
    rcases (r.o a u e).2 with y | y
    · exact k a u z y (r.o a u e).1
    · cases hF : F a with
      | none => exact k a u z hF (r.o a u e).1
      | some x =>
        rcases r.f a x hF with e2 | ⟨_, o, e2⟩
        · rw [(r.o a u e).1] at e2; cases e2
          refine ⟨?_, .inr y⟩
          cases u <;> first | exact f.tup (s.tup hF) | cases y
        · rw [(r.o a u e).1] at e2; cases e2; cases y
  · rcases getset e with ⟨ej, e', _⟩ | ⟨ne, e⟩
    · subst ej
      cases e'
      refine ⟨_, h2, ?_⟩
      cases b with
      | dat d => cases h3
      | own d0 => exact ⟨p, rfl, n, hp.2.1, c⟩
      | par a0 d0 =>
        obtain ⟨v', e2, q⟩ := r.at_ _ _ h1
        rw [h2] at e2; cases e2
        obtain ⟨e3, _⟩ := q
        cases e3
        exact ⟨rfl, n, hp.2.1, c⟩
    · obtain ⟨w, e2, q⟩ := r.at_ j x e
      refine ⟨w, e2, q.mono s fun a ha => ?_⟩
      have z : a ≠ p := fun z => by subst z; exact ne (r.nd j i a x b w _ e h1 e2 h2 ha h3)
      obtain ⟨n1, _, u, hu, t⟩ := r.owned ⟨j, x, w, e, e2, ha⟩
      obtain ⟨k1, k2⟩ := k a u z n1 hu
      rcases k2 with k2 | k2
      · exact ⟨k2, k1.trans hu.symm⟩
      · rw [t] at k2; cases k2
  · have back : ∀ {j : Nat} {x : B} {v : V}, (E.set i (some (b.put d)))[j]? = some (some x) → σ[j]? = some (some v) → ownA v x = some a → ∃ y, E[j]? = some (some y) ∧ ownA v y = some a := fun {j x v} e1 e2 e3 => by
      rcases getset e1 with ⟨ej, e', _⟩ | ⟨_, e⟩
      · subst ej
        cases e'
        exact ⟨b, h1, ownA_put e3⟩
      · exact ⟨x, e, e3⟩
    obtain ⟨y1, g1, g2⟩ := back e1 e3 e5
    obtain ⟨y2, g3, g4⟩ := back e2 e4 e6
    exact r.nd j l a y1 y2 v w g1 g3 e3 e4 g2 g4
theorem ok_callP {i : Nat} {fs : PFS} {a : WA} {Ex : XK} : EOk K (tCall (spP K fs) [] Ex (tCons (tVar i) (tA K a))) (wCallP i fs a) := fun O G F σ H E Q r q => by
  obtain ⟨hi, q⟩ := q
  obtain ⟨b0, hb0⟩ := hasE_of hi
  obtain ⟨v, hv, _⟩ := r.at_ i b0 hb0
  refine ⟨v, hv, ?_⟩
  refine tA_bind r q fun vs H1 F1 E1 ds s1 r1 p1 q1 => ?_
  show spP K fs ((v :: vs) ++ []) H1 _ Ex
  rw [List.append_nil]
  split at q1
  · rename_i b hb
    obtain ⟨hm, q1⟩ := q1
    obtain ⟨v', hv', qb⟩ := r1.at_ i b hb
    rw [hv] at hv'; cases hv'
    have ho : ∃ p, ownA v b = some p := by
      cases b with
      | dat d => cases hm
      | own d => obtain ⟨p, e, _⟩ := qb; subst e; exact ⟨p, rfl⟩
      | par p d => obtain ⟨e, _⟩ := qb; subst e; exact ⟨p, rfl⟩
    obtain ⟨p, ho⟩ := ho
    obtain ⟨e, n, o, c⟩ := qb.own ho
    subst e
    refine ⟨F1, p, b.d, vs, ds, _, rfl, n, r1.f, c, p1, q1, fun x d' w F' H' hq s2 f2 k n2 c2 q2 => ?_⟩
    refine ⟨F', _, x, s1.trans s2, r1.after hb hv ho s2 f2 k n2 c2, ⟨q2.toO fun a e => r1.oNone (q2.own e).2.2.1, fun a e w => ?_⟩, hq⟩
    have hn := (q2.own e).2.2.1
    obtain ⟨j, y, z, e1, e2, e3⟩ := w
    refine r1.notOwned hn ?_
    rcases getset e1 with ⟨ej, e', _⟩ | ⟨_, e1⟩
    · cases e'
      subst ej
      exact ⟨_, b, z, hb, e2, ownA_put e3⟩
    · exact ⟨j, y, z, e1, e2, e3⟩
  · exact q1.elim
end

/-! ### calls, over the text -/
section
variable {X : Cx} {k : Nat} {f : Addr} {fd : FuncData} {ps : List Str} {x : Str} {p pos : Pos} {e : Expr} {es : List Expr}
theorem ed_call {fs : FS} {a : WA} (Fn : FnOk X.prog X.w X.K X.mg X.base CX0 k f fd ps (spF X.K fs)) (hr : Room k X.A) (hg : Gl X x) (hm : X.mg x = some (.ref f)) (hk : PySem.W.keepIn X.K (.ref f) = true) (hb : Binds X.K fd ps [])
    (ha : AD X (e :: es) a) (hdb : (x == ("__debug__" : Str)) = false := by decide) (he : starEach (e :: es) X.env = (false, eval e X.env) :: starEach es X.env := by rfl) (hpl : (backTo pos (starEach es X.env)).any (·.1) = false := by rfl) :
    ED X (.Call (.Name x p) (e :: es) [] pos) (wCall fs a) := ed_of (pe_call Fn hr hg hm hk hb .nil pass0 ha hdb he hpl) ok_call
theorem ed_call0 {fs : FS} (Fn : FnOk X.prog X.w X.K X.mg X.base CX0 k f fd ps (spF X.K fs)) (hr : Room k X.A) (hg : Gl X x) (hm : X.mg x = some (.ref f)) (hk : PySem.W.keepIn X.K (.ref f) = true) (hb : Binds X.K fd ps [])
    (hdb : (x == ("__debug__" : Str)) = false := by decide) : ED X (.Call (.Name x p) [] [] pos) (wCall fs aN) := ed_of (pe_call0 Fn hr hg hm hk hb .nil pass0 hdb) ok_call0
theorem ed_callP {i : Nat} {y : Str} {py : Pos} {fs : PFS} {a : WA} (Fn : FnOk X.prog X.w X.K X.mg X.base CX0 k f fd ps (spP X.K fs)) (hr : Room k X.A) (hg : Gl X x) (hm : X.mg x = some (.ref f)) (hk : PySem.W.keepIn X.K (.ref f) = true) (hb : Binds X.K fd ps [])
    (hv : PE X (.Name y py) (tVar i)) (ha : AD X es a) (hdb : (x == ("__debug__" : Str)) = false := by decide) (he : starEach (.Name y py :: es) X.env = (false, eval (.Name y py) X.env) :: starEach es X.env := by rfl) (hpl : (backTo pos (starEach es X.env)).any (·.1) = false := by rfl) :
    ED X (.Call (.Name x p) (.Name y py :: es) [] pos) (wCallP i fs a) := ed_of (pe_call Fn hr hg hm hk hb .nil pass0 (pa_cons hv ha he) hdb he hpl) ok_callP
end

/-! ### a def of the text -/
def start0 (N : List Str) (bs : List B) : En := bs.map some ++ List.replicate (N.length - bs.length) none
section
variable {P : Program} {w : World} {K : PySem.W.Frag} {mg : Str → Option Value} {base : Heap}
theorem start_at {N : List Str} {vs : List V} {i : Nat} {v : V} (h : vs[i]? = some v) : (L2.start N vs)[i]? = some (some v) := by
  unfold L2.start
  rw [List.getElem?_append_left (by rw [List.length_map]; exact getsome_lt h), List.getElem?_map, h]
  rfl
theorem start0_at {N : List Str} {bs : List B} {i : Nat} {b : B} (h : (start0 N bs)[i]? = some (some b)) : bs[i]? = some b := by
  unfold start0 at h
  by_cases hi : i < bs.length
  · rw [List.getElem?_append_left (by simpa using hi), List.getElem?_map] at h
    cases e : bs[i]? with
    | none => rw [e] at h; cases h
    | some c => rw [e] at h; cases h; rfl
  · rw [List.getElem?_append_right (by simpa using hi), List.getElem?_replicate] at h
    split at h <;> cases h
theorem start_len {N : List Str} {vs : List V} {bs : List B} (h : vs.length = bs.length) (hN : vs.length ≤ N.length) : (L2.start N vs).length = (start0 N bs).length := by
  unfold L2.start start0
  rw [List.length_append, List.length_append, List.length_map, List.length_map, List.length_replicate, List.length_replicate, h]

/-- a def by its body's reading as plain data -/
theorem body_F {N : List Str} {t : TS} {ws : WS} {fs : FS} {vs : List V} {H : Hp} {Q : VK} {Ex : XK} (hok : SOk K t ws) (hN : vs.length ≤ N.length) (law : ∀ ds P, fs ds P → ws { nx := fun _ => P (.dat .non), rt := fun b _ => P b } (start0 N (ds.map .dat)))
    (h : spF K fs vs H Q Ex) : t { nx := fun _ H' => Q .non H', rt := Q } (L2.start N vs) H := by
  obtain ⟨G, ds, P, sg, rep, hf, k⟩ := h
  let O : Hp := fun a => match G a with
    | none => H a
    | some _ => none
  have hO : ∀ a u, O a = some u → H a = some u ∧ G a = none := fun a u e => by
    show _ ∧ _
    have e' : (match G a with | none => H a | some _ => none) = some u := e
    cases hg : G a with
    | none => rw [hg] at e'; exact ⟨e', rfl⟩
    | some x => rw [hg] at e'; cases e'
  have nOwn : ∀ (i : Nat) (b : B) (v : V) (a : Addr), (start0 N (ds.map B.dat))[i]? = some (some b) → ownA v b ≠ some a := fun i b v a e z => by
    have e1 := start0_at e
    rw [List.getElem?_map] at e1
    cases e2 : ds[i]? with
    | none => rw [e2] at e1; cases e1
    | some d => rw [e2] at e1; cases e1; cases v <;> cases z
  have r0 : R K O G G (L2.start N vs) H (start0 N (ds.map .dat)) := by
    refine ⟨Sub.refl G, sg, fun a u e => ⟨(hO a u e).1, .inl (hO a u e).2⟩, start_len (by rw [List.length_map]; exact rep.length) hN, fun i b e => ?_, fun i j a bi bj v w e1 e2 e3 e4 e5 e6 => absurd e5 (nOwn i bi v a e1)⟩
    have e1 := start0_at e
    rw [List.getElem?_map] at e1
    cases e2 : ds[i]? with
    | none => rw [e2] at e1; cases e1
    | some d =>
      rw [e2] at e1
      cases e1
      obtain ⟨v, hv, p⟩ := rep.get e2
      exact ⟨v, start_at hv, p⟩
  have fin : ∀ {F' H' σ' E' v b}, R K O G F' σ' H' E' → RR K O F' σ' H' E' v b → P b → Q v H' := fun {F' H' σ' E' v b} r q p => by
    have hk : ∀ a u, G a = none → H a = some u → H' a = some u ∧ (F' a = none ∨ isTup u = true) := fun a u n e => r.o a u (by
      show (match G a with | none => H a | some _ => none) = some u
      rw [n]; exact e)
    refine k b v F' H' p r.g r.f hk (q.1.toO fun a e => ?_)
    obtain ⟨_, n, o, _⟩ := q.1.own e
    have hg := r.g.gone n
    have o' : (match G a with | none => H a | some _ => none) = none := o
    rw [hg] at o'
    exact o'
  exact hok O G G _ H _ _ { nx := fun _ => P (.dat .non), rt := fun b _ => P b } ⟨fun F σ H E r p => fin r (datRR .non) p, fun F σ H E v b r q p => fin r q p, fun F σ H E r p => p.elim, fun F σ H E r p => p.elim⟩ r0 (law ds P hf)
/-- the same, the first argument handed in to be changed -/
theorem body_P {N : List Str} {t : TS} {ws : WS} {fs : PFS} {vs : List V} {H : Hp} {Q : VK} {Ex : XK} (hok : SOk K t ws) (hN : vs.length ≤ N.length)
    (law : ∀ p d ds P, fs d ds P → ws { nx := fun E => ∃ d', E[0]? = some (some (.par p d')) ∧ P (.dat .non) d', rt := fun b E => ∃ d', E[0]? = some (some (.par p d')) ∧ P b d' } (start0 N (.par p d :: ds.map .dat)))
    (h : spP K fs vs H Q Ex) : t { nx := fun _ H' => Q .non H', rt := Q } (L2.start N vs) H := by
  obtain ⟨G, p, d, us, ds, P, rfl, gp, sg, cell, rep, hf, k⟩ := h
  let O : Hp := fun a => if a = p then none else match G a with
    | none => H a
    | some _ => none
  have hO : ∀ a u, O a = some u → H a = some u ∧ G a = none := fun a u e => by
    have e' : (if a = p then none else match G a with | none => H a | some _ => none) = some u := e
    by_cases z : a = p
    · rw [if_pos z] at e'; cases e'
    · rw [if_neg z] at e'
      cases hg : G a with
      | none => rw [hg] at e'; exact ⟨e', rfl⟩
      | some x => rw [hg] at e'; cases e'
  have Op : O p = none := by
    show (if p = p then none else match G p with | none => H p | some _ => none) = none
    rw [if_pos rfl]
  have own0 : ∀ (i : Nat) (b : B) (v : V) (a : Addr), (start0 N (B.par p d :: ds.map B.dat))[i]? = some (some b) → ownA v b = some a → i = 0 := fun i b v a e z => by
    cases i with
    | zero => rfl
    | succ i =>
      have e1 := start0_at e
      rw [List.getElem?_cons_succ, List.getElem?_map] at e1
      cases e2 : ds[i]? with
      | none => rw [e2] at e1; cases e1
      | some d => rw [e2] at e1; cases e1; cases v <;> cases z
  have r0 : R K O G G (L2.start N (.ref p :: us)) H (start0 N (.par p d :: ds.map .dat)) := by
    refine ⟨Sub.refl G, sg, fun a u e => ⟨(hO a u e).1, .inl (hO a u e).2⟩, start_len (by simp [rep.length]) hN, fun i b e => ?_, fun i j a bi bj v w e1 e2 e3 e4 e5 e6 => by rw [own0 i bi v a e1 e5, own0 j bj w a e2 e6]⟩
    have e1 := start0_at e
    cases i with
    | zero =>
      rw [List.getElem?_cons_zero] at e1
      cases e1
      exact ⟨_, start_at rfl, rfl, gp, Op, cell⟩
    | succ i =>
      rw [List.getElem?_cons_succ, List.getElem?_map] at e1
      cases e2 : ds[i]? with
      | none => rw [e2] at e1; cases e1
      | some d =>
        rw [e2] at e1
        cases e1
        obtain ⟨v, hv, p⟩ := rep.get e2
        exact ⟨v, start_at (by simpa using hv), p⟩
  have fin : ∀ {F' H' σ' E' v b}, R K O G F' σ' H' E' → RR K O F' σ' H' E' v b → (∃ d', E'[0]? = some (some (.par p d')) ∧ P b d') → Q v H' := fun {F' H' σ' E' v b} r q ⟨d', e0, pp⟩ => by
    obtain ⟨v0, hv0, q0⟩ := r.at_ 0 _ e0
    obtain ⟨ev, n, o, c⟩ := q0
    have hk : ∀ a u, a ≠ p → G a = none → H a = some u → H' a = some u ∧ (F' a = none ∨ isTup u = true) := fun a u z n e => r.o a u (by
      show (if a = p then none else match G a with | none => H a | some _ => none) = some u
      rw [if_neg z, n]; exact e)
    refine k b d' v F' H' pp r.g r.f hk n c (q.1.toO fun a e => ?_)
    obtain ⟨_, n', o', _⟩ := q.1.own e
    have z : a ≠ p := fun z => by
      subst z
      exact q.2 a e ⟨0, _, v0, e0, hv0, by subst ev; rfl⟩
    have hg := r.g.gone n'
    have o2 : (if a = p then none else match G a with | none => H a | some _ => none) = none := o'
    rw [if_neg z, hg] at o2
    exact o2
  exact hok O G G _ H _ _ { nx := fun E => ∃ d', E[0]? = some (some (.par p d')) ∧ P (.dat .non) d', rt := fun b E => ∃ d', E[0]? = some (some (.par p d')) ∧ P b d' } ⟨fun F σ H E r p => fin r (datRR .non) p, fun F σ H E v b r q p => fin r q p, fun F σ H E r p => p.elim, fun F σ H E r p => p.elim⟩ r0 (law p d ds P hf)
end
end PW

set_option Elab.async false
set_option linter.all false
set_option autoImplicit false
set_option maxRecDepth 100000
set_option maxHeartbeats 4000000
namespace PW
open PySem PySem.Spec PyProof.Rows L2

/-! ### targets -/
abbrev WG := D → En → (En → Prop) → Prop
abbrev WGs := List D → En → (En → Prop) → Prop
def tG (K : PySem.W.Frag) (w : WG) : TG := fun v σ H Q => ∃ O G F E d Q', R K O G F σ H E ∧ Rep K F v d ∧ w d E Q' ∧ ∀ σ' H' F' E', Sub F F' → R K O G F' σ' H' E' → Q' E' → Q σ' H'
def tGs (K : PySem.W.Frag) (w : WGs) : TGs := fun vs σ H Q => ∃ O G F E ds Q', R K O G F σ H E ∧ RepL K F vs ds ∧ w ds E Q' ∧ ∀ σ' H' F' E', Sub F F' → R K O G F' σ' H' E' → Q' E' → Q σ' H'
def gN (i : Nat) : WG := fun d E Q => Q (E.set i (some (.dat d)))
def gT (n : Nat) (w : WGs) : WG := fun d E Q => match d with
  | .tup ds => ds.length = n ∧ w ds E Q
  | _ => False
def gsN : WGs := fun ds E Q => ds = [] ∧ Q E
def gsC (w : WG) (ws : WGs) : WGs := fun ds E Q => match ds with
  | d :: r => w d E fun E1 => ws r E1 Q
  | [] => False
abbrev GD (X : Cx) (e : Expr) (w : WG) : Prop := PG X e (tG X.K w)
abbrev GsD (X : Cx) (es : List Expr) (w : WGs) : Prop := PGs X es (tGs X.K w)
section
variable {X : Cx} {pos : Pos} {e : Expr} {es : List Expr}
theorem gd_n {i : Nat} {x : Str} (hN : X.N.Nodup) (hi : X.N[i]? = some x) (hx : Loc X.env.scope x) (hf : X.fn x = true ∨ X.env.scope.names.lookup x = some .local := by first | exact .inl rfl | exact .inr rfl | assumption) : GD X (.Name x pos) (gN i) := ⟨fun pins s σ H v u Q I rv h => by
  obtain ⟨O, G, F, E, d, Q', r, p, q, k⟩ := h
  refine (pg_name hN hi hx hf).run pins s σ H v u Q I rv ?_
  exact k _ _ F _ (Sub.refl F) (r.set i (datRR p)) q⟩
theorem gsd_n : GsD X [] gsN := ⟨fun pins s σ H vs us Q I rv h => by
  obtain ⟨O, G, F, E, ds, Q', r, p, ⟨e, q⟩, k⟩ := h
  subst e
  cases p
  exact pgs_nil.run pins s σ H [] us Q I rv ⟨rfl, k _ _ F _ (Sub.refl F) r q⟩⟩
theorem gsd_c {w : WG} {ws : WGs} (h1 : GD X e w) (h2 : GsD X es ws) (hs : (assignEach (e :: es) X.env).map (·.2) = assign e X.env :: (assignEach es X.env).map (·.2) := by rfl) : GsD X (e :: es) (gsC w ws) := ⟨fun pins s σ H vs us Q I rv h => by
  obtain ⟨O, G, F, E, ds, Q', r, p, q, k⟩ := h
  cases p with
  | nil => exact (show False from q).elim
  | cons p1 p2 =>
    rename_i v vs d ds
    have q : w d E fun E1 => ws ds E1 Q' := q
    refine (pgs_cons h1 h2 hs).run pins s σ H _ us Q I rv ⟨v, vs, rfl, ?_⟩
    exact ⟨O, G, F, E, d, _, r, p1, q, fun σ' H' F' E' s' r' q' => ⟨O, G, F', E', ds, Q', r', p2.mono s', q', fun σ2 H2 F2 E2 s2 r2 q2 => k _ _ F2 E2 (s'.trans s2) r2 q2⟩⟩⟩
theorem gd_t {k : Nat} {w : WGs} {n : Nat} (hc : X.calm = true) (h : GsD X es w) (hn : (assignEach es X.env).length = n := by rfl) (hst : (assignEach es X.env).findIdx? (·.1) = none := by rfl) : GD X (.Tuple es k pos) (gT n w) := ⟨fun pins s σ H v u Q I rv hq => by
  obtain ⟨O, G, F, E, d, Q', r, p, q, kk⟩ := hq
  cases d with
  | tup ds =>
    obtain ⟨hl, q⟩ := (show ds.length = n ∧ w ds E Q' from q)
    cases p with
    | tup hF p =>
      refine (pg_tup hc h hn hst).run pins s σ H _ u Q I rv ⟨_, _, rfl, SqT.of (r.f.tup hF), p.length.trans hl, ?_⟩
      exact ⟨O, G, F, E, ds, Q', r, p, q, kk⟩
  | _ => exact (show False from q).elim⟩
/-- target = value -/
def sAsg (w : WE) (g : WG) : WS := fun D E => w E fun b E1 => g b.d E1 D.nx
theorem sd_asg {tg e : Expr} {w : WE} {g : WG} (he : ED X e w) (hg : GD X tg g) (hs : swapsWithSole [tg] e pos.line X.env = pure false := by rfl) (hw : swappedStores [tg] e X.env = pure none := by rfl)
    (h1 : (assignEach [tg] X.env).map (·.2) = [assign tg X.env] := by rfl) : SD X (.Assign [tg] e pos) (sAsg w g) := sd_of (ps_asg he hg hs hw h1) fun O G F σ H E D D' en r h => by
  refine tE_bind r h fun v H' F' E' b s r' p q => ?_
  obtain ⟨F2, s2, r2, p2⟩ := r'.frz p
  exact ⟨O, G, F2, E', b.d, D'.nx, r2, p2, q, fun σ3 H3 F3 E3 s3 r3 q3 => en.nx _ _ _ _ r3 q3⟩
end

/-! ### what is walked -/
/-- the iterator hands out ds -/
structure Gives (K : PySem.W.Frag) (J : It) (F1 : Hp) (ds : List D) : Prop where
  go : ∀ O F σ H E i, R K O F1 F σ H E → i < ds.length → J.go i H
  stop : ∀ O F σ H E, R K O F1 F σ H E → J.stop ds.length H
  yld : ∀ O F σ H E i x H', R K O F1 F σ H E → i < ds.length → J.yld i H x H' → ∃ F' d, Sub F F' ∧ R K O F1 F' σ H' E ∧ Rep K F' x d ∧ ds[i]? = some d
abbrev WI := En → (List D → En → Prop) → Prop
def tI (K : PySem.W.Frag) (w : WI) : TI := fun σ H Rr => ∃ O G F E Q', R K O G F σ H E ∧ w E Q' ∧ ∀ J H' F' E' ds, Sub F F' → R K O G F' σ H' E' → Gives K J F' ds → Q' ds E' → Rr J H'
abbrev ID (X : Cx) (tg iter : Expr) (w : WI) : Prop := PI X tg iter (tI X.K w)
theorem tI_bind {K : PySem.W.Frag} {w : WI} {O G F : Hp} {σ : L2.St} {H : Hp} {E : En} {Rr : It → Hp → Prop} {P : List D → En → Prop} (r : R K O G F σ H E) (h : w E P)
    (k : ∀ J H' F' E' ds, Sub F F' → R K O G F' σ H' E' → Gives K J F' ds → P ds E' → Rr J H') : tI K w σ H Rr := ⟨O, G, F, E, P, r, h, k⟩

def itemsD : D → Option (List D)
  | .lst l => some l
  | .tup l => some l
  | .str s => some (s.map fun c => .str [c])
  | .scr ns => some (ns.map .int)
  | .dct _ kd => some (kd.map (·.1))
  | _ => none
/-- a list, a tuple, a text, a dict's keys -/
def iS (w : WE) : WI := fun E Q => w E fun b E1 => ∃ ds, itemsD b.d = some ds ∧ Q ds E1
def rng (lo : Int) (n : Nat) : List D := (List.range n).map fun (k : Nat) => D.int (lo + (k : Int))
/-- range(n), range(a, b) -/
def iR1 (w : WE) : WI := fun E Q => w E fun b E1 => match b.d with
  | .int n => (-(2 ^ 62) ≤ n ∧ n < 2 ^ 62) ∧ Q (rng 0 n.toNat) E1
  | _ => False
def iR2 (wa wb : WE) : WI := fun E Q => wa E fun a E1 => wb E1 fun b E2 => match a.d, b.d with
  | .int i, .int j => (-(2 ^ 62) ≤ i ∧ i < 2 ^ 62 ∧ -(2 ^ 62) ≤ j ∧ j < 2 ^ 62) ∧ Q (rng i (j - i).toNat) E2
  | _, _ => False

section
variable {K : PySem.W.Frag} {F1 : Hp}
theorem gives_list {a : Addr} {ds : List D} {vs : List V} (h : SqL K F1 a vs) (p : RepL K F1 vs ds) : Gives K (Itl K a) F1 ds where
  go := fun O F σ H E i r hi => by
    obtain ⟨v, e, _⟩ := p.get (List.getElem?_eq_getElem hi)
    exact ⟨vs, v, r.f.sql (r.g.sql h), e⟩
  stop := fun O F σ H E r => ⟨vs, r.f.sql (r.g.sql h), Nat.le_of_eq p.length⟩
  yld := fun O F σ H E i x H' r hi ⟨e, y⟩ => by
    subst e
    obtain ⟨v, e, p1⟩ := p.get (List.getElem?_eq_getElem hi)
    have := y vs (r.f.sql (r.g.sql h))
    rw [e] at this; cases this
    exact ⟨F, _, Sub.refl F, r, p1.mono r.g, List.getElem?_eq_getElem hi⟩
theorem gives_tup {a : Addr} {ds : List D} {vs : List V} (h : F1 a = some (.tup vs)) (p : RepL K F1 vs ds) : Gives K (Itt K a) F1 ds where
  go := fun O F σ H E i r hi => by
    obtain ⟨v, e, _⟩ := p.get (List.getElem?_eq_getElem hi)
    exact ⟨vs, v, SqT.of (r.f.tup (r.g.tup h)), e⟩
  stop := fun O F σ H E r => ⟨vs, SqT.of (r.f.tup (r.g.tup h)), Nat.le_of_eq p.length⟩
  yld := fun O F σ H E i x H' r hi ⟨e, y⟩ => by
    subst e
    obtain ⟨v, e, p1⟩ := p.get (List.getElem?_eq_getElem hi)
    have := y vs (SqT.of (r.f.tup (r.g.tup h)))
    rw [e] at this; cases this
    exact ⟨F, _, Sub.refl F, r, p1.mono r.g, List.getElem?_eq_getElem hi⟩
theorem gives_str (l : List Nat) : Gives K (Its (mkS l)) F1 (l.map fun c => .str [c]) where
  go := fun O F σ H E i r hi => by
    show i < (mkS l).cps.size
    simpa using hi
  stop := fun O F σ H E r => by
    show (mkS l).cps.size ≤ (l.map _).length
    simp
  yld := fun O F σ H E i x H' r hi ⟨e, c, hc, ex⟩ => by
    subst e ex
    refine ⟨F, .str [c], Sub.refl F, r, .str [c], ?_⟩
    have hc : l[i]? = some c := by simpa using hc
    rw [List.getElem?_map, hc]
    rfl
theorem gives_range (lo : Int) (n : Nat) : Gives K (Itr lo n) F1 (rng lo n) where
  go := fun O F σ H E i r hi => by
    show i < n
    simpa [rng] using hi
  stop := fun O F σ H E r => by
    show n ≤ _
    simp [rng]
  yld := fun O F σ H E i x H' r hi ⟨e, ex⟩ => by
    subst e ex
    have hi : i < n := by simpa [rng] using hi
    refine ⟨F, .int (lo + i), Sub.refl F, r, .int _, ?_⟩
    unfold rng
    rw [List.getElem?_map, List.getElem?_range hi]
    rfl
theorem RepK.getK : ∀ {kv : List (Key × V)} {kd : List (D × D)} {i : Nat} {k : Key} {v : V} {F : Hp}, RepK K F kv kd → kv[i]? = some (k, v) → ∃ d, kd[i]? = some (kD k, d) ∧ Rep K F v d
  | _, _, _, _, _, _, .nil, e => by simp at e
  | _, _, 0, _, _, _, .cons h _, e => by simp at e; obtain ⟨e1, e2⟩ := e; subst e1 e2; exact ⟨_, rfl, h⟩
  | _, _, i + 1, k, v, F, .cons _ r, e => by
    obtain ⟨d, h1, h2⟩ := RepK.getK (i := i) (k := k) (v := v) r (by simpa using e)
    exact ⟨d, by simpa using h1, h2⟩
theorem RepT.getT : ∀ {kv : List (List Key × V)} {kd : List (D × D)} {i : Nat} {k : List Key} {v : V} {F : Hp}, RepT K F kv kd → kv[i]? = some (k, v) → ∃ d, kd[i]? = some (.tup (k.map kD), d) ∧ Rep K F v d
  | _, _, _, _, _, _, .nil, e => by simp at e
  | _, _, 0, _, _, _, .cons h _, e => by simp at e; obtain ⟨e1, e2⟩ := e; subst e1 e2; exact ⟨_, rfl, h⟩
  | _, _, i + 1, k, v, F, .cons _ r, e => by
    obtain ⟨d, h1, h2⟩ := RepT.getT (i := i) (k := k) (v := v) r (by simpa using e)
    exact ⟨d, by simpa using h1, h2⟩
theorem rep_kV {F : Hp} (k : Key) : Rep K F (kV k) (kD k) := by
  cases k with
  | inl i => exact .int i
  | inr x =>
    have : Rep K F (.str (mkS x.cps.toList)) (.str x.cps.toList) := .str _
    rw [mkS_of] at this
    exact this
theorem repL_kV {F : Hp} : ∀ ks : List Key, RepL K F (ks.map kV) (ks.map kD)
  | [] => .nil
  | k :: ks => .cons (rep_kV k) (repL_kV ks)
theorem gives_keys {a : Addr} {o : Obj} {kv : List (Key × V)} {kd : List (D × D)} (h : F1 a = some (.frz o (.dK kv))) (p : RepK K F1 kv kd) : Gives K (Itk a o kv) F1 (kd.map (·.1)) where
  go := fun O F σ H E i r hi => ⟨r.f.exact (r.g.exact h rfl) rfl, by rw [p.length]; simpa using hi⟩
  stop := fun O F σ H E r => ⟨r.f.exact (r.g.exact h rfl) rfl, by rw [p.length]; simp⟩
  yld := fun O F σ H E i x H' r hi ⟨e, k0, v0, hk, ex⟩ => by
    subst e ex
    obtain ⟨d, h1, h2⟩ := p.getK hk
    exact ⟨F, kD k0, Sub.refl F, r, rep_kV k0, by rw [List.getElem?_map, h1]; rfl⟩
theorem gives_keysT {a : Addr} {o : Obj} {kv : List (List Key × V)} {kd : List (D × D)} (h : F1 a = some (.frz o (.dT kv))) (p : RepT K F1 kv kd) : Gives K (Itkt a o kv) F1 (kd.map (·.1)) where
  go := fun O F σ H E i r hi => ⟨r.f.exact (r.g.exact h rfl) rfl, by rw [p.length]; simpa using hi⟩
  stop := fun O F σ H E r => ⟨r.f.exact (r.g.exact h rfl) rfl, by rw [p.length]; simp⟩
  yld := fun O F σ H E i x H' r hi ⟨e, k0, v0, q, hk, ex, hq⟩ => by
    subst e ex
    obtain ⟨d, h1, h2⟩ := p.getT hk
    obtain ⟨F', s', r', e'⟩ := r.knowTup hq
    exact ⟨F', .tup (k0.map kD), s', r', .tup e' (repL_kV k0), by rw [List.getElem?_map, h1]; rfl⟩
end
section
variable {X : Cx} {tg : Expr} {pins : List (Addr × Obj)} {σ : L2.St} {H1 : Hp} {s1 : Shared} {Rr : It → Hp → Prop} {E : Value → Shared → Prop}
theorem it_list {a : Addr} {xs : List V} (I1 : Inv X pins σ H1 s1) (hq : SqL X.K H1 a xs) (q : Rr (Itl X.K a) H1) : wpAny (model X.prog X.w) X.A (pyIter (.ref a)) (PIE X pins σ tg Rr) E s1 := by
  obtain ⟨its, rv, p, hz⟩ := I1.list hq
  refine wpAny_pyIter_list p.isList ?_
  refine ⟨s1.heap.objs.size, [s1.heap.objs.size], _, _, H1, rfl, I1.kept (t' := s1.toks) fun b o e => Heap.get?_push_of_some _ e, turn_list a _, ⟨_, Heap.get?_push_size _ rfl, rfl, rfl⟩, fun b hb => ?_, q⟩
  have e : b = s1.heap.objs.size := by simpa using hb
  subst e
  exact I1.fpOk (Nat.le_refl _) (I1.hok.fresh (Nat.le_refl _))
theorem it_tup {a : Addr} {xs : List V} (I1 : Inv X pins σ H1 s1) (hq : SqT X.K H1 a xs) (q : Rr (Itt X.K a) H1) : wpAny (model X.prog X.w) X.A (pyIter (.ref a)) (PIE X pins σ tg Rr) E s1 := by
  obtain ⟨its, rv, p, hz⟩ := I1.tuple hq
  refine wpAny_pyIter_tuple (show s1.heap.IsTuple a its.toArray from p) ?_
  refine ⟨s1.heap.objs.size, [s1.heap.objs.size], _, _, H1, rfl, I1.kept (t' := s1.toks) fun b o e => Heap.get?_push_of_some _ e, turn_tuple a _, ⟨_, Heap.get?_push_size _ rfl, rfl, rfl⟩, fun b hb => ?_, q⟩
  have e : b = s1.heap.objs.size := by simpa using hb
  subst e
  exact I1.fpOk (Nat.le_refl _) (I1.hok.fresh (Nat.le_refl _))
theorem it_str {x : Str} {t : Tok} (I1 : Inv X pins σ H1 s1) (q : Rr (Its x) H1) : wpAny (model X.prog X.w) X.A (pyIter (.str x t)) (PIE X pins σ tg Rr) E s1 := by
  cases ha : x.cps.all (· < 128)
  · exact wpAny_pyIter_wide ha (pi_one (tk := s1.toks) I1 _ (turn_str _ x t "str_iterator" (.inr rfl)) ⟨_, Heap.get?_push_size _ rfl, rfl, rfl⟩ q)
  · exact wpAny_pyIter_ascii ha (pi_one (tk := s1.toks) I1 _ (turn_str _ x t "str_ascii_iterator" (.inl rfl)) ⟨_, Heap.get?_push_size _ rfl, rfl, rfl⟩ q)
theorem it_keys {d : Addr} {o : Obj} {kvs : List (Key × V)} (I1 : Inv X pins σ H1 s1) (hd : H1 d = some (.frz o (.dK kvs))) (q : Rr (Itk d o kvs) H1) : wpAny (model X.prog X.w) X.A (pyIter (.ref d)) (PIE X pins σ tg Rr) E s1 := by
  obtain ⟨hs, hgd, hx, es, ep, vs, hdt, hsz, kv, hm⟩ := I1.frzK hd
  refine iter_keys hs hgd hx hdt (pi_one (tk := s1.toks) I1 _ (turn_keys _ hdt) ⟨_, Heap.get?_push_size _ rfl, rfl, ?_⟩ q)
  rw [hsz] <;> rfl
theorem it_keysT {d : Addr} {o : Obj} {kvs : List (List Key × V)} (I1 : Inv X pins σ H1 s1) (hd : H1 d = some (.frz o (.dT kvs))) (q : Rr (Itkt d o kvs) H1) : wpAny (model X.prog X.w) X.A (pyIter (.ref d)) (PIE X pins σ tg Rr) E s1 := by
  obtain ⟨hs, hgd, hx, es, ep, hdt, hsz, ent⟩ := I1.frzT hd
  refine iter_keys hs hgd hx hdt (pi_one (tk := s1.toks) I1 _ (turn_keysT _ hdt) ⟨_, Heap.get?_push_size _ rfl, rfl, ?_⟩ q)
  rw [hsz] <;> rfl
end
/-- a dict, known for good, is locked -/
theorem R.lock {K : PySem.W.Frag} {O G F : Hp} {σ : L2.St} {H : Hp} {E : En} {a : Addr} {o : Obj} {u : HO} (r : R K O G F σ H E) (hF : F a = some u) (hH : H a = some u) (d : isD u = true) :
    Sub F (upd F a (.frz o u)) ∧ R K O G (upd F a (.frz o u)) σ (upd H a (.frz o u)) E := by
  have s : Sub F (upd F a (.frz o u)) := fun b w e => by
    by_cases z : b = a
    · subst z
      rw [hF] at e; cases e
      exact .inr ⟨d, o, upd_same⟩
    · rw [upd_ne z]; exact .inl e
  have nt : isTup u = false := by cases u <;> first | rfl | cases d
  have nO : O a = none := by
    cases e : O a with
    | none => rfl
    | some w =>
      obtain ⟨h1, h2⟩ := r.o a w e
      rw [hH] at h1; cases h1
      rcases h2 with h2 | h2
      · rw [hF] at h2; cases h2
      · rw [nt] at h2; cases h2
  refine ⟨s, r.step s (r.f.upd_both _) (fun b w e => ?_) fun b w => ?_⟩
  · have z : b ≠ a := fun z => by subst z; rw [nO] at e; cases e
    rw [upd_ne z, upd_ne z]
    exact r.o b w e
  · have z : b ≠ a := fun z => by
      subst z
      have := (r.owned w).1
      rw [hF] at this; cases this
    rw [upd_ne z, upd_ne z]
    exact ⟨(r.owned w).1, rfl⟩
section
variable {X : Cx} {tg e : Expr}
/-- a dict, walked: it is locked for good -/
theorem R.lockRd {K : PySem.W.Frag} {O G F : Hp} {σ : L2.St} {H : Hp} {E : En} {a : Addr} {u : HO} (r : R K O G F σ H E) (h : Rd F a u) (d : isD u = true) :
    (∃ o, F a = some (.frz o u) ∧ H a = some (.frz o u)) ∨ (∃ o, F a = some u ∧ H a = some (.frz o u)) ∨ (F a = some u ∧ H a = some u) := by
  rcases h with h | ⟨o, h⟩
  · rcases r.f a u h with h' | ⟨_, o, h'⟩
    · exact .inr (.inr ⟨h, h'⟩)
    · exact .inr (.inl ⟨o, h, h'⟩)
  · exact .inl ⟨o, h, r.f.exact h rfl⟩
theorem R.lock2 {K : PySem.W.Frag} {O G F : Hp} {σ : L2.St} {H : Hp} {E : En} {a : Addr} {o : Obj} {u : HO} (r : R K O G F σ H E) (hF : F a = some u) (hH : H a = some (.frz o u)) (d : isD u = true) :
    Sub F (upd F a (.frz o u)) ∧ R K O G (upd F a (.frz o u)) σ H E := by
  have s : Sub F (upd F a (.frz o u)) := fun b w e => by
    by_cases z : b = a
    · subst z
      rw [hF] at e; cases e
      exact .inr ⟨d, o, upd_same⟩
    · rw [upd_ne z]; exact .inl e
  have nO : O a = none := by
    cases e : O a with
    | none => rfl
    | some w =>
      obtain ⟨h1, h2⟩ := r.o a w e
      rw [hH] at h1; cases h1
      rcases h2 with h2 | h2
      · rw [hF] at h2; cases h2
      · cases h2
  refine ⟨s, r.step s (r.f.upd_in hH) (fun b w e => ?_) fun b w => ?_⟩
  · have z : b ≠ a := fun z => by subst z; rw [nO] at e; cases e
    rw [upd_ne z]
    exact r.o b w e
  · have z : b ≠ a := fun z => by
      subst z
      have := (r.owned w).1
      rw [hF] at this; cases this
    rw [upd_ne z]
    exact ⟨(r.owned w).1, rfl⟩
theorem id_s {w : WE} (he : ED X e w) : ID X tg e (iS w) := ⟨fun pins s σ H Rr I h => by
  obtain ⟨O, G, F, E, Q', r, hw, kk⟩ := h
  refine thn (he.run pins s σ H (fun v H1 => ∃ F1 E1 b, Sub F F1 ∧ R X.K O G F1 σ H1 E1 ∧ RR X.K O F1 σ H1 E1 v b ∧ _) I (tE_ok O G F σ H E _ r hw)) fun u s1 ⟨v, H1, I1, rv, F0, E1, b, sb0, r0, p0, ds, ei, q⟩ => ?_
  obtain ⟨F1, sb1, r1, p1⟩ := r0.frz p0
  have fin : ∀ (J : It) H' F', Sub F1 F' → R X.K O G F' σ H' E1 → Gives X.K J F' ds → Rr J H' := fun J H' F' s' r' g => kk J H' F' E1 ds ((sb0.trans sb1).trans s') r' g q
  revert ei p1
  generalize b.d = x
  intro ei p1
  cases p1 with
  | lst h p =>
    cases ei
    cases rv
    exact it_list I1 (SqL.of (r1.f.lst h)) (fin _ _ F1 (Sub.refl F1) r1 (gives_list (SqL.of h) p))
  | tup h p =>
    cases ei
    cases rv
    exact it_tup I1 (SqT.of (r1.f.tup h)) (fin _ _ F1 (Sub.refl F1) r1 (gives_tup h p))
  | str l =>
    cases ei
    obtain ⟨t, rfl⟩ := rv
    exact it_str I1 (fin _ _ F1 (Sub.refl F1) r1 (gives_str l))
  | scr h =>
    cases ei
    cases rv
    exact it_list I1 (r1.f.sql h) (fin _ _ F1 (Sub.refl F1) r1 (gives_list h (RepL.ofInts _)))
  | dK h p =>
    cases ei
    cases rv
    rcases r1.lockRd h rfl with ⟨o, hF, hH⟩ | ⟨o, hF, hH⟩ | ⟨hF, hH⟩
    · exact it_keys I1 hH (fin _ _ F1 (Sub.refl F1) r1 (gives_keys hF p))
    · obtain ⟨s2, r2⟩ := r1.lock2 hF hH rfl
      exact it_keys I1 hH (fin _ _ _ s2 r2 (gives_keys upd_same (p.mono s2)))
    · obtain ⟨o, I2⟩ := I1.lock hH True.intro
      obtain ⟨s2, r2⟩ := r1.lock (o := o) hF hH rfl
      exact it_keys I2 upd_same (fin _ _ _ s2 r2 (gives_keys upd_same (p.mono s2)))
  | dT h p =>
    cases ei
    cases rv
    rcases r1.lockRd h rfl with ⟨o, hF, hH⟩ | ⟨o, hF, hH⟩ | ⟨hF, hH⟩
    · exact it_keysT I1 hH (fin _ _ F1 (Sub.refl F1) r1 (gives_keysT hF p))
    · obtain ⟨s2, r2⟩ := r1.lock2 hF hH rfl
      exact it_keysT I1 hH (fin _ _ _ s2 r2 (gives_keysT upd_same (p.mono s2)))
    · obtain ⟨o, I2⟩ := I1.lock hH True.intro
      obtain ⟨s2, r2⟩ := r1.lock (o := o) hF hH rfl
      exact it_keysT I2 upd_same (fin _ _ _ s2 r2 (gives_keysT upd_same (p.mono s2)))
  | _ => cases ei⟩
theorem id_of {iter : Expr} {wi : TI} {w : WI} (h : PI X tg iter wi) (k : ∀ O G F σ H E (Q : List D → En → Prop), R X.K O G F σ H E → w E Q → wi σ H fun J H1 => ∃ F1 E1 ds, Sub F F1 ∧ R X.K O G F1 σ H1 E1 ∧ Gives X.K J F1 ds ∧ Q ds E1) : ID X tg iter w := ⟨fun pins s σ H Rr I hq => by
  obtain ⟨O, G, F, E, Q', r, hw, kk⟩ := hq
  refine thn (h.run pins s σ H _ I (k O G F σ H E Q' r hw)) fun v s1 h1 => thn h1 fun itv s2 h2 => ?_
  obtain ⟨it, fp, tn, J, H', e, I2, T, st, f2, F1, E1, ds, sb, r1, g, q⟩ := h2
  exact ⟨it, fp, tn, J, H', e, I2, T, st, f2, kk J H' F1 E1 ds sb r1 g q⟩⟩
theorem id_r1 {a : Expr} {w : WE} {p pos : Pos} (hg : Gl X "range") (hm : X.mg "range" = none) (ha : ED X a w) (hs : starEach [a] X.env = [(false, eval a X.env)] := by rfl) : ID X tg (.Call (.Name "range" p) [a] [] pos) (iR1 w) :=
  id_of (pi_range1 hg hm (pa_cons ha pa_nil (by rw [hs]; rfl)) hs) fun O G F σ H E Q r q => by
    refine tE_bind r q fun v H1 F1 E1 b s1 r1 p1 q1 => ?_
    split at q1
    · rename_i n en
      have e : v = .int n := by
        cases b with
        | dat d => have p := p1.1; cases en; cases p; rfl
        | own d => obtain ⟨a, _, _, _, c⟩ := p1.1; cases en; exact c.elim
        | par a d => obtain ⟨_, _, _, c⟩ := p1.1; cases en; exact c.elim
      subst e
      exact ⟨n, rfl, q1.1.1, q1.1.2, F1, E1, _, s1, r1, gives_range 0 n.toNat, q1.2⟩
    · exact q1.elim
theorem int_of {K : PySem.W.Frag} {O F : Hp} {σ : L2.St} {H : Hp} {E : En} {v : V} {b : B} {n : Int} (p1 : RR K O F σ H E v b) (en : b.d = .int n) : v = .int n := by
  cases b with
  | dat d => have p := p1.1; cases en; cases p; rfl
  | own d => obtain ⟨a, _, _, _, c⟩ := p1.1; cases en; exact c.elim
  | par a d => obtain ⟨_, _, _, c⟩ := p1.1; cases en; exact c.elim
theorem id_r2 {a b : Expr} {w w2 : WE} {p pos : Pos} (hg : Gl X "range") (hm : X.mg "range" = none) (ha : ED X a w) (hb : ED X b w2) (hs : starEach [a, b] X.env = [(false, eval a X.env), (false, eval b X.env)] := by rfl) (hs2 : starEach [b] X.env = [(false, eval b X.env)] := by rfl) :
    ID X tg (.Call (.Name "range" p) [a, b] [] pos) (iR2 w w2) :=
  id_of (pi_range2 hg hm (pa_cons ha (pa_cons hb pa_nil (by rw [hs2]; rfl)) (by rw [hs, hs2])) hs hs2) fun O G F σ H E Q r q => by
    refine tE_bind r q fun v H1 F1 E1 b s1 r1 p1 q1 => ?_
    refine tE_bind r1 q1 fun v2 H2 F2 E2 b2 s2 r2 p2 q2 => ?_
    split at q2
    · rename_i i j ei ej
      have e1 := int_of p1 ei
      have e2 := int_of p2 ej
      subst e1 e2
      exact ⟨i, j, rfl, q2.1, F2, E2, _, s1.trans s2, r2, gives_range i _, q2.2⟩
    · exact q2.elim

/-! ### for -/
def sFor (wi : WI) (wg : WG) (wb : WS) : WS := fun D E => wi E fun ds E1 => ∃ W : Nat → En → Prop, W 0 E1 ∧
  (∀ i d E', ds[i]? = some d → W i E' → wg d E' fun E2 => wb { D with nx := W (i + 1), ct := W (i + 1), bk := D.nx } E2) ∧ ∀ E', W ds.length E' → D.nx E'
theorem sd_for {iter : Expr} {body : List Stmt} {wi : WI} {wg : WG} {wb : WS} {pos : Pos} (hp : PassesOwn (model X.prog X.w) X.A X.env X.xe) (hc : X.calm = true) (hi : ID X tg iter wi) (hg : GD X tg wg) (hb : BD X body wb)
    (hs : ∀ x, foldedSetIterable iter X.env x = pure x := by intro _; rfl) : SD X (.For tg iter body [] pos) (sFor wi wg wb) := sd_of (ps_for hp hc hi hg hb hs) fun O G F σ H E D D' en r h => by
  refine tI_bind r h fun J H1 F1 E1 ds s1 r1 g ⟨W, w0, turn, done⟩ => ?_
  have en1 := en.up (F := F1) r1.g
  refine ⟨fun i m σ H => m = ds.length - i ∧ i ≤ ds.length ∧ ∃ F E, R X.K O F1 F σ H E ∧ W i E, ⟨_, rfl, Nat.zero_le _, F1, E1, ⟨Sub.refl F1, r1.f, r1.o, r1.len, r1.at_, r1.nd⟩, w0⟩, ?_⟩
  rintro i m σ2 H2 ⟨rfl, hi, F2, E2, r2, w2⟩
  by_cases hlt : i < ds.length
  · refine .inr ⟨g.go O F2 σ2 H2 E2 i r2 hlt, fun σ' H' => ∃ F E, R X.K O F1 F σ' H' E ∧ W (i + 1) E, fun σ' H' ⟨F3, E3, r3, w3⟩ => ⟨ds.length - (i + 1), by omega, rfl, hlt, F3, E3, r3, w3⟩, fun x H' y => ?_⟩
    obtain ⟨F3, d, s3, r3, p3, e3⟩ := g.yld O F2 σ2 H2 E2 i x H' r2 hlt y
    refine ⟨O, F1, F3, E2, d, _, r3, p3, turn i d E2 e3 w2, fun σ4 H4 F4 E4 s4 r4 q4 => ?_⟩
    refine ⟨O, F1, F4, E4, { D' with nx := W (i + 1), ct := W (i + 1), bk := D'.nx }, ⟨?_, en1.rt, ?_, ?_⟩, r4, q4⟩
    · exact fun F5 σ5 H5 E5 r5 w5 => ⟨F5, E5, r5, w5⟩
    · exact fun F5 σ5 H5 E5 r5 w5 => en1.nx _ _ _ _ r5 w5
    · exact fun F5 σ5 H5 E5 r5 w5 => ⟨F5, E5, r5, w5⟩
  · have e : i = ds.length := by omega
    subst e
    exact .inl ⟨g.stop O F2 σ2 H2 E2 r2, en1.nx _ _ _ _ r2 (done E2 w2)⟩
end
end PW

set_option Elab.async false
set_option linter.all false
set_option autoImplicit false
set_option maxRecDepth 100000
set_option maxHeartbeats 4000000
namespace PW
open PySem PySem.Spec PyProof.Rows L2

/-! ### comprehensions -/
def wipeE (E : En) : List Nat → En
  | [] => E
  | v :: vs => (wipeE E vs).set v none
/-- the names of the block are again what they were -/
def backE (E' E : En) : List Nat → En
  | [] => E'
  | v :: vs => (backE E' E vs).set v (match E[v]? with
    | some (some (.dat d)) => some (.dat d)
    | _ => none)
theorem wipeE_len (E : En) : ∀ vs, (wipeE E vs).length = E.length
  | [] => rfl
  | v :: vs => by unfold wipeE; rw [List.length_set, wipeE_len E vs]
theorem backE_len (E' E : En) : ∀ vs, (backE E' E vs).length = E'.length
  | [] => rfl
  | v :: vs => by unfold backE; rw [List.length_set, backE_len E' E vs]
theorem wipeE_some {E : En} {i : Nat} {b : B} : ∀ {vs : List Nat}, (wipeE E vs)[i]? = some (some b) → E[i]? = some (some b) ∧ i ∉ vs
  | [], h => ⟨h, by simp⟩
  | v :: vs, h => by
    unfold wipeE at h
    rcases getset h with ⟨_, e, _⟩ | ⟨ne, h⟩
    · cases e
    · obtain ⟨h1, h2⟩ := wipeE_some h
      exact ⟨h1, by simp only [List.mem_cons, not_or]; exact ⟨ne, h2⟩⟩
theorem backE_some {E' E : En} {i : Nat} {b : B} : ∀ {vs : List Nat}, (backE E' E vs)[i]? = some (some b) → (i ∉ vs ∧ E'[i]? = some (some b)) ∨ (∃ d, b = .dat d ∧ E[i]? = some (some b))
  | [], h => .inl ⟨by simp, h⟩
  | v :: vs, h => by
    unfold backE at h
    rcases getset h with ⟨e, e', _⟩ | ⟨ne, h⟩
    · subst e
      split at e'
      · rename_i d hd
        cases e'
        exact .inr ⟨d, rfl, hd⟩
      · cases e'
    · rcases backE_some h with ⟨h1, h2⟩ | h
      · exact .inl ⟨by simp only [List.mem_cons, not_or]; exact ⟨ne, h1⟩, h2⟩
      · exact .inr h
theorem wipe_at {σ : L2.St} {vs : List Nat} {i : Nat} (h : i ∉ vs) : (wipe σ vs)[i]? = σ[i]? := wipe_out h
section
variable {K : PySem.W.Frag} {O G F : Hp} {σ : L2.St} {H : Hp} {E : En}
theorem R.wipe (r : R K O G F σ H E) (vs : List Nat) : R K O G F (L2.wipe σ vs) H (wipeE E vs) := by
  refine ⟨r.g, r.f, r.o, by rw [wipe_length, wipeE_len]; exact r.len, fun i b e => ?_, fun i j a bi bj v w e1 e2 e3 e4 e5 e6 => ?_⟩
  · obtain ⟨e, h⟩ := wipeE_some e
    obtain ⟨v, hv, q⟩ := r.at_ i b e
    exact ⟨v, by rw [wipe_at h]; exact hv, q⟩
  · exact r.nd i j a bi bj v w (wipeE_some e1).1 (wipeE_some e2).1 (wipe_some e3).1 (wipe_some e4).1 e5 e6
/-- out of the block -/
theorem R.back {F' : Hp} {H' : Hp} {E' : En} {vs : List Nat} (r : R K O G F σ H E) (s : Sub F F') (r' : R K O G F' (L2.wipe σ vs) H' E') : R K O G F' σ H' (backE E' E vs) := by
  have own : ∀ {i : Nat} {b : B} {v : V} {a : Addr}, (backE E' E vs)[i]? = some (some b) → σ[i]? = some (some v) → ownA v b = some a → E'[i]? = some (some b) ∧ (L2.wipe σ vs)[i]? = some (some v) := fun {i b v a} e1 e2 e3 => by
    rcases backE_some e1 with ⟨h, e⟩ | ⟨d, e, _⟩
    · exact ⟨e, by rw [wipe_at h]; exact e2⟩
    · subst e; cases v <;> cases e3
  refine ⟨r'.g, r'.f, r'.o, ?_, fun i b e => ?_, fun i j a bi bj v w e1 e2 e3 e4 e5 e6 => ?_⟩
  · rw [backE_len, ← r'.len, wipe_length]
  · rcases backE_some e with ⟨h, e⟩ | ⟨d, e, h⟩
    · obtain ⟨v, hv, q⟩ := r'.at_ i b e
      exact ⟨v, by rw [wipe_at h] at hv; exact hv, q⟩
    · subst e
      obtain ⟨v, hv, q⟩ := r.at_ i _ h
      exact ⟨v, hv, Rep.mono s q⟩
  · obtain ⟨h1, h2⟩ := own e1 e3 e5
    obtain ⟨h3, h4⟩ := own e2 e4 e6
    exact r'.nd i j a bi bj v w h1 h3 h2 h4 e5 e6
theorem wipe_wipe (σ : L2.St) (vs : List Nat) : L2.wipe (L2.wipe σ vs) vs = L2.wipe σ vs := by
  apply List.ext_getElem?
  intro i
  by_cases h : i ∈ vs
  · have key : ∀ (τ : L2.St), τ.length = σ.length → (L2.wipe τ vs)[i]? = if i < σ.length then some none else none := fun τ hl => by
      by_cases hi : i < σ.length
      · rw [if_pos hi]
        cases e : (L2.wipe τ vs)[i]? with
        | none =>
          have := List.getElem?_eq_none_iff.mp e
          rw [wipe_length] at this
          omega
        | some o =>
          cases o with
          | none => rfl
          | some x => exact absurd h (wipe_some e).2
      · rw [if_neg hi]
        exact List.getElem?_eq_none (by rw [wipe_length]; omega)
    rw [key _ (wipe_length σ vs), key σ rfl]
  · rw [wipe_at h]
theorem wipe_set {σ : L2.St} {vs : List Nat} {i : Nat} {x : Option V} (h : i ∈ vs) : L2.wipe (σ.set i x) vs = L2.wipe σ vs := by
  apply List.ext_getElem?
  intro j
  by_cases hj : j ∈ vs
  · have key : ∀ (τ : L2.St), τ.length = σ.length → (L2.wipe τ vs)[j]? = if j < σ.length then some none else none := fun τ hl => by
      by_cases hi : j < σ.length
      · rw [if_pos hi]
        cases e : (L2.wipe τ vs)[j]? with
        | none =>
          have := List.getElem?_eq_none_iff.mp e
          rw [wipe_length] at this
          omega
        | some o =>
          cases o with
          | none => rfl
          | some x => exact absurd hj (wipe_some e).2
      · rw [if_neg hi]
        exact List.getElem?_eq_none (by rw [wipe_length]; omega)
    rw [key _ (by rw [List.length_set]), key σ rfl]
  · rw [wipe_at hj, wipe_at hj, List.getElem?_set_ne (fun (z : i = j) => hj (by rw [← z]; exact h))]
/-- a thing of nobody's is set apart -/
theorem R.hide {D : Addr} {u : HO} (r : R K O G F σ H E) (h : H D = some u) (n : F D = none) (w : ¬ Owned σ E D) : R K (upd O D u) G F σ H E := by
  refine ⟨r.g, r.f, fun a x e => ?_, r.len, fun i b e => ?_, r.nd⟩
  · by_cases z : a = D
    · subst z
      rw [upd_same] at e; cases e
      exact ⟨h, .inl n⟩
    · rw [upd_ne z] at e
      exact r.o a x e
  · obtain ⟨v, hv, q⟩ := r.at_ i b e
    refine ⟨v, hv, q.toO fun a ha => ?_⟩
    have z : a ≠ D := fun z => w (z ▸ ⟨i, b, v, e, hv, ha⟩)
    rw [upd_ne z]
    exact (q.own ha).2.2.1
theorem R.unhide {D : Addr} {u u' : HO} (r : R K (upd O D u) G F σ H E) (n : F D = none) (o : O D = none) : R K O G F σ (upd H D u') E ∧ ¬ Owned σ E D := by
  have w : ¬ Owned σ E D := fun w => by
    have := (r.owned w).2.1
    rw [upd_same] at this; cases this
  refine ⟨⟨r.g, r.f.upd_out _ n, fun a x e => ?_, r.len, fun i b e => ?_, r.nd⟩, w⟩
  · have z : a ≠ D := fun z => by subst z; rw [o] at e; cases e
    have := r.o a x (by rw [upd_ne z]; exact e)
    rw [upd_ne z]
    exact this
  · obtain ⟨v, hv, q⟩ := r.at_ i b e
    refine ⟨v, hv, RB.mono (Sub.refl F) (fun a ha => ?_) (q.toO fun a ha => ?_)⟩
    · have z : a ≠ D := fun z => w (z ▸ ⟨i, b, v, e, hv, ha⟩)
      exact ⟨(q.own ha).2.1, upd_ne z⟩
    · have z : a ≠ D := fun z => w (z ▸ ⟨i, b, v, e, hv, ha⟩)
      have := (q.own ha).2.2.1
      rw [upd_ne z] at this
      exact this
theorem R.unhide0 {D : Addr} {u : HO} (r : R K (upd O D u) G F σ H E) (n : F D = none) (o : O D = none) : R K O G F σ H E ∧ ¬ Owned σ E D ∧ H D = some u := by
  have hD := (r.o D u upd_same).1
  have h := r.unhide (u' := u) n o
  have e : upd H D u = H := by
    funext b
    by_cases z : b = D
    · subst z; rw [upd_same, hD]
    · rw [upd_ne z]
  rw [e] at h
  exact ⟨h.1, h.2, hD⟩
end

/-- a target within a block: of the block's names alone -/
def tGv (K : PySem.W.Frag) (vs : List Nat) (w : WG) : TG := fun v σ H Q => ∃ O G F E d Q', R K O G F σ H E ∧ Rep K F v d ∧ w d E Q' ∧ ∀ σ' H' F' E', L2.wipe σ' vs = L2.wipe σ vs → Sub F F' → R K O G F' σ' H' E' → Q' E' → Q σ' H'
def tGvs (K : PySem.W.Frag) (vs : List Nat) (w : WGs) : TGs := fun us σ H Q => ∃ O G F E ds Q', R K O G F σ H E ∧ RepL K F us ds ∧ w ds E Q' ∧ ∀ σ' H' F' E', L2.wipe σ' vs = L2.wipe σ vs → Sub F F' → R K O G F' σ' H' E' → Q' E' → Q σ' H'
abbrev GvD (X : Cx) (vs : List Nat) (e : Expr) (w : WG) : Prop := PG X e (tGv X.K vs w)
abbrev GvsD (X : Cx) (vs : List Nat) (es : List Expr) (w : WGs) : Prop := PGs X es (tGvs X.K vs w)
section
variable {X : Cx} {pos : Pos} {e : Expr} {es : List Expr} {vs : List Nat}
theorem gvd_n {i : Nat} {x : Str} (hN : X.N.Nodup) (hv : i ∈ vs) (hi : X.N[i]? = some x) (hx : Loc X.env.scope x) (hf : X.fn x = true ∨ X.env.scope.names.lookup x = some .local := by first | exact .inl rfl | exact .inr rfl | assumption) : GvD X vs (.Name x pos) (gN i) := ⟨fun pins s σ H v u Q I rv h => by
  obtain ⟨O, G, F, E, d, Q', r, p, q, k⟩ := h
  refine (pg_name hN hi hx hf).run pins s σ H v u Q I rv ?_
  exact k _ _ F _ (wipe_set hv) (Sub.refl F) (r.set i (datRR p)) q⟩
theorem gvsd_n : GvsD X vs [] gsN := ⟨fun pins s σ H us ws Q I rv h => by
  obtain ⟨O, G, F, E, ds, Q', r, p, ⟨e, q⟩, k⟩ := h
  subst e
  cases p
  exact pgs_nil.run pins s σ H [] ws Q I rv ⟨rfl, k _ _ F _ rfl (Sub.refl F) r q⟩⟩
theorem gvsd_c {w : WG} {ws : WGs} (h1 : GvD X vs e w) (h2 : GvsD X vs es ws) (hs : (assignEach (e :: es) X.env).map (·.2) = assign e X.env :: (assignEach es X.env).map (·.2) := by rfl) : GvsD X vs (e :: es) (gsC w ws) := ⟨fun pins s σ H vs' us Q I rv h => by
  obtain ⟨O, G, F, E, ds, Q', r, p, q, k⟩ := h
  cases p with
  | nil => exact (show False from q).elim
  | cons p1 p2 =>
    rename_i v vs0 d ds
    have q : w d E fun E1 => ws ds E1 Q' := q
    refine (pgs_cons h1 h2 hs).run pins s σ H _ us Q I rv ⟨v, vs0, rfl, ?_⟩
    exact ⟨O, G, F, E, d, _, r, p1, q, fun σ' H' F' E' hw s' r' q' => ⟨O, G, F', E', ds, Q', r', p2.mono s', q', fun σ2 H2 F2 E2 hw2 s2 r2 q2 => k _ _ F2 E2 (hw2.trans hw) (s'.trans s2) r2 q2⟩⟩⟩
theorem gvd_t {k : Nat} {w : WGs} {n : Nat} (hc : X.calm = true) (h : GvsD X vs es w) (hn : (assignEach es X.env).length = n := by rfl) (hst : (assignEach es X.env).findIdx? (·.1) = none := by rfl) : GvD X vs (.Tuple es k pos) (gT n w) := ⟨fun pins s σ H v u Q I rv hq => by
  obtain ⟨O, G, F, E, d, Q', r, p, q, kk⟩ := hq
  cases d with
  | tup ds =>
    obtain ⟨hl, q⟩ := (show ds.length = n ∧ w ds E Q' from q)
    cases p with
    | tup hF p =>
      refine (pg_tup hc h hn hst).run pins s σ H _ u Q I rv ⟨_, _, rfl, SqT.of (r.f.tup hF), p.length.trans hl, ?_⟩
      exact ⟨O, G, F, E, ds, Q', r, p, q, kk⟩
  | _ => exact (show False from q).elim⟩
end
/-- tests of a clause -/
abbrev TsD (X : Cx) (ifs : List Expr) (w : WT) : Prop := PTs X ifs (tT X.K w)
def wYes : WT := fun E Q => Q true E
section
variable {X : Cx} {c : Expr}
theorem tsd_n : TsD X [] wYes := ⟨fun pins s σ H Q I hq => by
  obtain ⟨O, G, F, E, Q', r, hw, kk⟩ := hq
  exact pts_nil.run pins s σ H Q I (kk true H F E (Sub.refl F) r hw)⟩
theorem tsd_1 {w : WT} (h : TD X c w) : TsD X [c] w := pts_one h
end
def wLc (wi : WI) (wg : WG) (wt : WT) (we : WE) (vs : List Nat) : WE := fun E Q => wi E fun ds E1 => ∃ W : Nat → List D → En → Prop, W 0 [] (wipeE E1 vs) ∧
  (∀ i d acc E', ds[i]? = some d → W i acc E' → wg d E' fun E2 => wt E2 fun b E3 => if b = true then we E3 fun y E4 => acc.length < 16777216 ∧ W (i + 1) (acc ++ [y.d]) (wipeE E4 vs) else W (i + 1) acc (wipeE E3 vs)) ∧
  ∀ acc E', W ds.length acc E' → Q (.own (.lst acc)) (backE E' E1 vs)
section
variable {K : PySem.W.Frag}
theorem ok_lcK {wi : WI} {wg : WG} {wt : WT} {we : WE} {vs : List Nat} {O G F : Hp} {σ : L2.St} {H : Hp} {E : En} {Q : B → En → Prop} {Qv : VK} (r : R K O G F σ H E) (h : wLc wi wg wt we vs E Q)
    (kv : ∀ v H' F' E' b, Sub F F' → R K O G F' σ H' E' → RR K O F' σ H' E' v b → Q b E' → Qv v H') : tLc (tI K wi) (tGv K vs wg) (tT K wt) (tE K we) vs σ H Qv := by
  refine tI_bind r h fun J H1 F1 E1 ds s1 r1 g ⟨W, w0, turn, done⟩ => ?_
  intro D hD
  have nD := r1.f.gone hD
  have oD := r1.oNone hD
  refine ⟨fun i m H => m = ds.length - i ∧ i ≤ ds.length ∧ ∃ F E acc xs, Sub F1 F ∧ F D = none ∧ R K (upd O D (.lst xs)) F1 F (L2.wipe σ vs) H E ∧ RepL K F xs acc ∧ W i acc E, ⟨_, rfl, Nat.zero_le _, F1, _, [], [], Sub.refl F1, nD, ?_, .nil, w0⟩, ?_⟩
  · have r2 := ((r1.alloc (u := .lst []) hD).wipe vs)
    have r3 := r2.hide upd_same nD (fun w => by
      obtain ⟨i, b, v, e1, e2, e3⟩ := w
      exact r1.notOwned hD ⟨i, b, v, (wipeE_some e1).1, (wipe_some e2).1, e3⟩)
    exact ⟨Sub.refl F1, r3.f, r3.o, r3.len, r3.at_, r3.nd⟩
  · rintro i m H2 ⟨rfl, hi, F2, E2, acc, xs, s2, n2, r2, p2, w2⟩
    by_cases hlt : i < ds.length
    · refine .inr ⟨g.go _ F2 _ H2 E2 i r2 hlt, _, fun H' h => h, fun x H3 y => ?_⟩
      obtain ⟨F3, d, s3, r3, p3, e3⟩ := g.yld _ F2 _ H2 E2 i x H3 r2 hlt y
      refine ⟨_, _, F3, E2, d, _, r3, p3, turn i d acc E2 e3 w2, fun σ4 H4 F4 E4 hw4 s4 r4 q4 => ?_⟩
      rw [wipe_wipe] at hw4
      refine ⟨hw4, tT_bind r4 q4 fun b H5 F5 E5 s5 r5 q5 => ?_⟩
      -- the new list is not known to F
      have keep : ∀ {F' H' E'} {xs : List V}, R K (upd O D (.lst xs)) F1 F' σ4 H' E' → F' D = none := fun {F' H' E' xs} r' => by
        rcases (r'.o D _ upd_same).2 with z | z
        · exact z
        · cases z
      cases b with
      | true =>
        have q5 : we E5 fun y E4 => acc.length < 16777216 ∧ W (i + 1) (acc ++ [y.d]) (wipeE E4 vs) := q5
        refine tE_bind r5 q5 fun z H6 F6 E6 b6 s6 r6 p6 q6 => ?_
        obtain ⟨F7, s7, r7, p7⟩ := r6.frz p6
        have n7 := keep r7
        have pl : RepL K F7 xs acc := p2.mono (((s3.trans s4).trans s5).trans (s6.trans s7))
        refine ⟨xs, (r7.o D _ upd_same).1, by rw [pl.length, line_eq]; exact q6.1, ds.length - (i + 1), by omega, rfl, hlt, F7, wipeE E6 vs, acc ++ [b6.d], xs ++ [z], (((s2.trans s3).trans s4).trans s5).trans (s6.trans s7), n7, ?_, pl.append (.cons p7 .nil), q6.2⟩
        obtain ⟨r8, w8⟩ := r7.unhide (u' := .lst (xs ++ [z])) n7 oD
        have r9 := (r8.wipe vs)
        rw [hw4] at r9
        refine r9.hide upd_same n7 fun w => w8 ?_
        obtain ⟨j, b, v, e1, e2, e3⟩ := w
        rw [← hw4] at e2
        exact ⟨j, b, v, (wipeE_some e1).1, (wipe_some e2).1, e3⟩
      | false =>
        have q5 : W (i + 1) acc (wipeE E5 vs) := q5
        refine ⟨ds.length - (i + 1), by omega, rfl, hlt, F5, wipeE E5 vs, acc, xs, ((s2.trans s3).trans s4).trans s5, keep r5, ?_, p2.mono ((s3.trans s4).trans s5), q5⟩
        have r9 := r5.wipe vs
        rw [hw4] at r9
        exact r9
    · have e : i = ds.length := by omega
      subst e
      refine .inl ⟨g.stop _ F2 _ H2 E2 r2, ?_⟩
      obtain ⟨r3, w3, hD2⟩ := r2.unhide0 n2 oD
      have r3 : R K O G F2 (L2.wipe σ vs) H2 E2 := ⟨r1.g.trans r3.g, r3.f, r3.o, r3.len, r3.at_, r3.nd⟩
      have r4 := r1.back s2 r3
      refine kv _ _ F2 _ (.own (.lst acc)) (s1.trans s2) r4 ⟨⟨D, rfl, n2, oD, xs, hD2, p2⟩, fun a ea w => ?_⟩ (done acc E2 w2)
      cases ea
      obtain ⟨j, b, v, e1, e2, e3⟩ := w
      rcases backE_some e1 with ⟨h1, h2⟩ | ⟨d, h1, _⟩
      · exact w3 ⟨j, b, v, h2, by rw [wipe_at h1]; exact e2, e3⟩
      · subst h1; cases v <;> cases e3
theorem ok_lc {wi : WI} {wg : WG} {wt : WT} {we : WE} {vs : List Nat} : EOk K (tLc (tI K wi) (tGv K vs wg) (tT K wt) (tE K we) vs) (wLc wi wg wt we vs) := fun O G F σ H E Q r h => ok_lcK r h fun v H' F' E' b s r' p q => ⟨F', E', b, s, r', p, q⟩
end
section
variable {X : Cx}
theorem ed_lc {elt tg iter : Expr} {ifs : List Expr} {scope : Scope} {own : List (Str × Nat)} {pos : Pos} {wi : WI} {wg : WG} {wt : WT} {we : WE} {vs : List Nat} (hc : X.calm = true) (hN : X.N.Nodup) (hvs : own.map (·.2) = vs) (hi : ID X tg iter wi) (ok : BlkOk X.N X.env.scope scope own)
    (hg : ∀ (s : Shared) (H : Hp) (C : Addr) (cl : List (Str × Addr)) (fp : List Addr), GvD (X.blk s H scope (compEnvC scope cl C X.env) fp) vs tg wg) (ht : ∀ (s : Shared) (H : Hp) (C : Addr) (cl : List (Str × Addr)) (fp : List Addr), TsD (X.blk s H scope (compEnvC scope cl C X.env) fp) ifs wt)
    (he : ∀ (s : Shared) (H : Hp) (C : Addr) (cl : List (Str × Addr)) (fp : List Addr), ED (X.blk s H scope (compEnvC scope cl C X.env) fp) elt we) (hs : ∀ x, foldedSetIterable iter X.env x = pure x := by intro _; rfl) :
    ED X (.ListComp elt [⟨tg, iter, ifs, 0⟩] scope pos) (wLc wi wg wt we vs) := by
  subst hvs
  exact ed_of (pe_lc hc hN hi ok hg ht he hs) ok_lc
/-- name = [..] on one line -/
theorem sd_setLc {i : Nat} {y : Str} {py : Pos} {elt tg iter : Expr} {ifs : List Expr} {scope : Scope} {own : List (Str × Nat)} {pos spos : Pos} {wi : WI} {wg : WG} {wt : WT} {we : WE} {vs : List Nat} (hc : X.calm = true) (hN : X.N.Nodup) (hvs : own.map (·.2) = vs) (hy : X.N[i]? = some y) (hyl : X.env.scope.names.lookup y = some .local)
    (hsw : swapsWith (.ListComp elt [⟨tg, iter, ifs, 0⟩] scope pos) (some (.Name y py)) spos.line X.env = pure true) (hi : ID X tg iter wi) (ok : BlkOk X.N X.env.scope scope own)
    (hg : ∀ (s : Shared) (H : Hp) (C : Addr) (cl : List (Str × Addr)) (fp : List Addr), GvD (X.blk s H scope (compEnvC scope cl C X.env) fp) vs tg wg) (ht : ∀ (s : Shared) (H : Hp) (C : Addr) (cl : List (Str × Addr)) (fp : List Addr), TsD (X.blk s H scope (compEnvC scope cl C X.env) fp) ifs wt)
    (he : ∀ (s : Shared) (H : Hp) (C : Addr) (cl : List (Str × Addr)) (fp : List Addr), ED (X.blk s H scope (compEnvC scope cl C X.env) fp) elt we) (hs : ∀ x, foldedSetIterable iter X.env x = pure x := by intro _; rfl) :
    SD X (.Assign [.Name y py] (.ListComp elt [⟨tg, iter, ifs, 0⟩] scope pos) spos) (sSet i (wLc wi wg wt we vs)) := by
  subst hvs
  refine sd_of (ps_setLc (g := tGv X.K (own.map (·.2)) wg) (tt := tT X.K wt) (te := tE X.K we) hc hN hy hyl hsw hi ok hg ht he hs) fun O G F σ H E D D' en r h => ?_
  exact ok_lcK r h fun v H' F' E' b s r' p q => en.nx _ _ _ _ (r'.set i p) q
end
end PW

set_option Elab.async false
set_option linter.all false
set_option autoImplicit false
set_option maxRecDepth 100000
set_option maxHeartbeats 4000000
namespace PW
open PySem PySem.Spec PyProof.Rows L2

/-! ### isinstance -/
def tyName : D → String
  | .non => "NoneType" | .bl _ => "bool" | .int _ => "int" | .str _ => "str" | .tup _ => "tuple" | .lst _ => "list" | .dct _ _ => "dict" | .scr _ => "list"
def isiT (n t : String) : Bool := t == n || (n == "int" && t == "bool")
def isiD (n : String) (d : D) : Bool := isiT n (tyName d)
def wIsi (n : String) (x : D) (Q : B → Prop) : Prop := Q (.dat (.bl (isiD n x)))
section
variable {X : Cx} {pins : List (Addr × Obj)} {σ : L2.St} {H : Hp} {s : Shared}
theorem kit_ofD {d : D} {x : V} {u : Value} (I : Inv X pins σ H s) (rx : RelV x u) (h : Rep X.K H x d) : ∃ P : Heap → Prop, PySem.W.KitX X.K u (.type (tyName d)) P ∧ P s.heap ∧ u ≠ .builtin "__main__.__loader__#opaque" := by
  cases h with
  | non => exact kit_of I rx (.base .non)
  | bl b => exact kit_of I rx (.base (.bl b))
  | int i => exact kit_of I rx (.base (.int i))
  | str l => exact kit_of I rx (.base (.str _))
  | tup e _ => exact kit_of I rx (.base (.tup e))
  | lst e _ => exact kit_of I rx (.base (.lst e))
  | @dK a kv kd e _ =>
    cases (show u = Value.ref a from rx)
    obtain ⟨_, _, vs, _, o, es, ep, h1, h2, _⟩ := dk_rd I.hok e
    exact ⟨_, PySem.W.kitx_dict, ⟨o, h1, h2.1⟩, fun z => nomatch z⟩
  | @dT a kv kd e _ =>
    cases (show u = Value.ref a from rx)
    obtain ⟨_, _, vs, _, o, es, ep, h1, h2, _⟩ := dt_rd I.hok e
    exact ⟨_, PySem.W.kitx_dict, ⟨o, h1, h2.1⟩, fun z => nomatch z⟩
  | @scr a ns e =>
    cases (show u = Value.ref a from rx)
    obtain ⟨its, rv, ⟨o, n, h1, h2, _⟩, _⟩ := I.list e
    exact ⟨_, PySem.W.kitx_list, ⟨o, h1, h2⟩, fun z => nomatch z⟩
abbrev rIsiD (K : PySem.W.Frag) (n : String) : List V → Hp → VK → Prop := fun xs H Q => ∃ (x : V) (d : D), xs = [x, .ty n] ∧ Rep K H x d ∧ kitB (tyName d) n = some (isiD n d) ∧ Q (.bl (isiD n d)) H
theorem call_isiD {n : String} : CallR X (.builtin "isinstance") (rIsiD X.K n) := by
  intro pins s σ H xs us Q I r h
  obtain ⟨x, d, rfl, h, e, q⟩ := h
  obtain ⟨u1, u2, rfl, r1, r2⟩ := vals2 r
  cases r2
  obtain ⟨P, Z, p, hx⟩ := kit_ofD I r1 h
  exact PySem.W.kia_one Z I.kIn p (kit_ty e) hx fun tk => ⟨.bl _, H, I.tok tk, rfl, q⟩
def isiOk (n : String) : Prop := ∀ d : D, kitB (tyName d) n = some (isiD n d)
theorem isi_of {n : String} (h : (["NoneType", "bool", "int", "str", "tuple", "list", "dict"].all fun t => kitB t n == some (isiT n t)) = true) : isiOk n := fun d => by
  have key : ∀ t ∈ ["NoneType", "bool", "int", "str", "tuple", "list", "dict"], kitB t n = some (isiT n t) := fun t ht => by
    have := List.all_eq_true.mp h t ht
    exact eq_of_beq this
  cases d <;> exact key _ (by simp [tyName])
theorem isi_dict : isiOk "dict" := isi_of (by decide +kernel)
theorem isi_list : isiOk "list" := isi_of (by decide +kernel)
theorem isi_tuple : isiOk "tuple" := isi_of (by decide +kernel)
theorem isi_bool : isiOk "bool" := isi_of (by decide +kernel)
theorem isi_str : isiOk "str" := isi_of (by decide +kernel)
theorem isi_int : isiOk "int" := isi_of (by decide +kernel)
theorem ed_isi {n : String} {wo : WO} {e : Expr} {x y : Str} {p p2 pos : Pos} (hn0 : isiOk n) (hg : Gl X x) (hm : X.mg x = none) (hv : bootBuiltins x = some (.builtin "isinstance")) (hg2 : Gl X y) (hm2 : X.mg y = none) (hv2 : bootBuiltins y = some (.type n)) (ha : OD X e wo)
    (hn : x ≠ "__name__" := by decide) (hdb : (x == ("__debug__" : Str)) = false := by decide) (hn2 : y ≠ "__name__" := by decide) (hdb2 : (y == ("__debug__" : Str)) = false := by decide)
    (hs : starEach [e, .Name y p2] X.env = (false, eval e X.env) :: starEach [.Name y p2] X.env := by rfl) (hs2 : starEach [.Name y p2] X.env = (false, eval (.Name y p2) X.env) :: starEach [] X.env := by rfl)
    (hpl : (backTo pos (starEach [.Name y p2] X.env)).any (·.1) = false := by rfl) : ED X (.Call (.Name x p) [e, .Name y p2] [] pos) (wUn (wIsi n) wo) := by
  refine ed_of (pe_callB call_isiD hg hm hv (pa_cons ha (pa_cons (pe_bltn (v := .ty n) hg2 hm2 hv2 rfl hn2 hdb2) pa_nil hs2) hs) hn hdb hs hpl) (ok_un (r := fun x H Q => rIsiD X.K n [x, .ty n] H Q) ?_)
  intro O G F σ H E x dx Q Q' r hx q k
  exact ⟨x, dx, rfl, hx.rep r.f, hn0 dx, k _ _ (.dat r (.bl _) q)⟩
end

/-! ### a list or dict of ours is changed -/
/-- x.m(e), x.m(): what it hands back, what becomes of x -/
abbrev WM1 := D → D → (D → D → Prop) → Prop
abbrev WM0 := D → (D → D → Prop) → Prop
def tyD (T : String) (d : D) : Prop := match d with
  | .lst _ => T = "list"
  | .dct _ _ => T = "dict"
  | _ => False
def tyE (T : String) (E : En) (i : Nat) : Prop := match E[i]? with
  | some (some b) => tyD T b.d ∧ b.mu = true
  | _ => False
def wMut1 (T : String) (i : Nat) (m : WM1) (we : WE) : WE := fun E Q => tyE T E i ∧ we E fun y E1 => match E1[i]? with
  | some (some b) => b.mu = true ∧ m b.d y.d fun res new => Q (.dat res) (E1.set i (some (b.put new)))
  | _ => False
def wMut0 (T : String) (i : Nat) (m : WM0) : WE := fun E Q => match E[i]? with
  | some (some b) => (tyD T b.d ∧ b.mu = true) ∧ m b.d fun res new => Q (.dat res) (E.set i (some (b.put new)))
  | _ => False
/-- behind a change of the cell at a -/
def OutM (K : PySem.W.Frag) (O G F : Hp) (σ : L2.St) (E : En) (i : Nat) (b : B) (Q : D → D → Prop) : VK := fun v H' => ∃ F' res new, Sub F F' ∧ R K O G F' σ H' (E.set i (some (b.put new))) ∧ Rep K F' v res ∧ Q res new
def Mt1Ok (K : PySem.W.Frag) (r : V → List V → Hp → VK → Prop) (m : WM1) : Prop := ∀ O G F σ H E i b a y dy (Q : D → D → Prop) (Q' : VK), R K O G F σ H E → E[i]? = some (some b) → σ[i]? = some (some (.ref a)) → ownA (.ref a) b = some a → Cell K F H a b.d → Rep K F y dy → m b.d dy Q →
  (∀ v H', OutM K O G F σ E i b Q v H' → Q' v H') → r (.ref a) [y] H Q'
def Mt0Ok (K : PySem.W.Frag) (r : V → List V → Hp → VK → Prop) (m : WM0) : Prop := ∀ O G F σ H E i b a (Q : D → D → Prop) (Q' : VK), R K O G F σ H E → E[i]? = some (some b) → σ[i]? = some (some (.ref a)) → ownA (.ref a) b = some a → Cell K F H a b.d → m b.d Q →
  (∀ v H', OutM K O G F σ E i b Q v H' → Q' v H') → r (.ref a) [] H Q'
section
variable {K : PySem.W.Frag}
theorem Cell.mkL {F H : Hp} {a : Addr} {vs : List V} {ds : List D} (p : RepL K F vs ds) : Cell K F (upd H a (.lst vs)) a (.lst ds) := ⟨vs, upd_same, p⟩
theorem Cell.mkK {F H : Hp} {a : Addr} {kv : List (Key × V)} {kd : List (D × D)} (p : RepK K F kv kd) : Cell K F (upd H a (.dK kv)) a (.dct false kd) := ⟨kv, upd_same, p⟩
theorem Cell.mkT {F H : Hp} {a : Addr} {kv : List (List Key × V)} {kd : List (D × D)} (p : RepT K F kv kd) : Cell K F (upd H a (.dT kv)) a (.dct true kd) := ⟨kv, upd_same, p⟩
theorem R.cellAt {O G F : Hp} {σ : L2.St} {H : Hp} {E : En} {i : Nat} {b : B} (r : R K O G F σ H E) (h : E[i]? = some (some b)) (hm : b.mu = true) : ∃ a, σ[i]? = some (some (.ref a)) ∧ ownA (.ref a) b = some a ∧ Cell K F H a b.d ∧ F a = none := by
  obtain ⟨v, hv, q⟩ := r.at_ i b h
  cases b with
  | dat d => cases hm
  | own d => obtain ⟨a, e, n, _, c⟩ := q; subst e; exact ⟨a, hv, rfl, c, n⟩
  | par a d => obtain ⟨e, n, _, c⟩ := q; subst e; exact ⟨a, hv, rfl, c, n⟩
theorem Cell.ty {F H : Hp} {a : Addr} {d : D} {T : String} (c : Cell K F H a d) (h : tyD T d) : tyV K T (.ref a) H := by
  cases d with
  | lst l => obtain ⟨vs, e, _⟩ := c; exact .inl ⟨h, vs, SqL.of e⟩
  | dct t l =>
    cases t with
    | false => obtain ⟨kv, e, _⟩ := c; exact .inr (.inr (.inl ⟨h, .inl ⟨kv, e⟩⟩))
    | true => obtain ⟨kv, e, _⟩ := c; exact .inr (.inr (.inl ⟨h, .inr ⟨kv, e⟩⟩))
  | _ => exact c.elim
theorem ok_mut1 {T : String} {i : Nat} {m : WM1} {r : V → List V → Hp → VK → Prop} {we : WE} (hk : Mt1Ok K r m) : EOk K (tBM K T r (tVar i) (tCons (tE K we) tNil)) (wMut1 T i m we) := fun O G F σ H E Q r0 ⟨ht, q⟩ => by
  unfold tyE at ht
  split at ht
  · rename_i b0 h0
    obtain ⟨a, hv, ho, c, n⟩ := r0.cellAt h0 ht.2
    refine ⟨_, hv, c.ty ht.1, ?_⟩
    refine tE_bind r0 q fun y H1 F1 E1 by_ s1 r1 p1 q1 => ?_
    obtain ⟨F2, s2, r2, p2⟩ := r1.frz p1
    split at q1
    · rename_i b h
      obtain ⟨a', hv', ho', c', n'⟩ := r2.cellAt h q1.1
      rw [hv] at hv'; cases hv'
      refine hk O G F2 σ H1 E1 i b a y _ _ _ r2 h hv ho' c' p2 q1.2 fun v H' ⟨F3, res, new, s3, r3, p3, q3⟩ => ?_
      exact ⟨F3, _, .dat res, (s1.trans s2).trans s3, r3, datRR p3, q3⟩
    · exact q1.elim
  · exact ht.elim
theorem ok_mut0 {T : String} {i : Nat} {m : WM0} {r : V → List V → Hp → VK → Prop} (hk : Mt0Ok K r m) : EOk K (tBM0 K T r (tVar i)) (wMut0 T i m) := fun O G F σ H E Q r0 q => by
  unfold wMut0 at q
  split at q
  · rename_i b h
    obtain ⟨a, hv, ho, c, n⟩ := r0.cellAt h q.1.2
    refine ⟨_, hv, c.ty q.1.1, ?_⟩
    refine hk O G F σ H E i b a _ _ r0 h hv ho c q.2 fun v H' ⟨F3, res, new, s3, r3, p3, q3⟩ => ?_
    exact ⟨F3, _, .dat res, s3, r3, datRR p3, q3⟩
  · exact q.elim
def mAppend : WM1 := fun d y Q => match d with
  | .lst l => l.length < 16777216 ∧ Q .non (.lst (l ++ [y]))
  | _ => False
def mExtend : WM1 := fun d y Q => match d, y with
  | .lst l, .lst m => l.length + m.length ≤ 16777216 ∧ Q .non (.lst (l ++ m))
  | _, _ => False
def mPop0 : WM0 := fun d Q => match d with
  | .lst l => ∃ x, l[l.length - 1]? = some x ∧ Q x (.lst l.dropLast)
  | _ => False
def mPop1 : WM1 := fun d y Q => match d, y with
  | .lst l, .int i => (-(2 ^ 63) ≤ i ∧ i < 2 ^ 63) ∧ ∃ k x, seqIndex? i l.length = some k ∧ l[k]? = some x ∧ Q x (.lst (l.eraseIdx k))
  | _, _ => False
theorem k_append : Mt1Ok K rAppend mAppend := by
  intro O G F σ H E i b a y dy Q Q' r h hv ho c py q k
  unfold mAppend at q
  split at q
  · rename_i l hl
    rw [hl] at c
    obtain ⟨vs, e, p⟩ := c
    refine ⟨a, vs, y, rfl, rfl, e, by rw [p.length, line_eq]; exact q.1, k _ _ ⟨F, .non, _, Sub.refl F, r.write h hv ho (Cell.mkL (p.append (.cons py .nil))), .non, q.2⟩⟩
  · exact q.elim
theorem k_extend : Mt1Ok K rExtend mExtend := by
  intro O G F σ H E i b a y dy Q Q' r h hv ho c py q k
  unfold mExtend at q
  split at q
  · rename_i l m hl
    rw [hl] at c
    obtain ⟨vs, e, p⟩ := c
    cases py with
    | lst e2 p2 =>
      refine ⟨a, _, vs, _, rfl, rfl, e, r.f.lst e2, by rw [p.length, p2.length, line_eq]; exact q.1, k _ _ ⟨F, .non, _, Sub.refl F, r.write h hv ho (Cell.mkL (p.append p2)), .non, q.2⟩⟩
  · exact q.elim
theorem k_pop0 : Mt0Ok K rPop mPop0 := by
  intro O G F σ H E i b a Q Q' r h hv ho c q k
  unfold mPop0 at q
  split at q
  · rename_i l hl
    rw [hl] at c
    obtain ⟨vs, e, p⟩ := c
    obtain ⟨x, hx, q⟩ := q
    obtain ⟨v, hv2, px⟩ := p.get hx
    refine ⟨a, vs, v, rfl, rfl, e, by rw [p.length]; exact hv2, k _ _ ⟨F, x, _, Sub.refl F, r.write h hv ho (Cell.mkL p.dropLast), px, q⟩⟩
  · exact q.elim
theorem k_pop1 : Mt1Ok K rPopAt mPop1 := by
  intro O G F σ H E i b a y dy Q Q' r h hv ho c py q k
  unfold mPop1 at q
  split at q
  · rename_i l m hl
    rw [hl] at c
    obtain ⟨vs, e, p⟩ := c
    obtain ⟨hm, j, x, hj, hx, q⟩ := q
    cases py
    obtain ⟨v, hv2, px⟩ := p.get hx
    refine ⟨a, vs, m, j, v, rfl, rfl, e, hm.1, hm.2, by rw [p.length]; exact hj, hv2, k _ _ ⟨F, x, _, Sub.refl F, r.write h hv ho (Cell.mkL (p.eraseIdx j)), px, q⟩⟩
  · exact q.elim
end
section
variable {X : Cx} {e : Expr} {apos cpos p : Pos} {y : Str}
theorem ed_append {i : Nat} {we : WE} (ho : PE X (.Name y p) (tVar i)) (ha : ED X e we) (hbase : attributeBase (.Name y p) "append" X.env (eval (.Name y p) X.env) = eval (.Name y p) X.env := by rfl)
    (hfew : ((backTo cpos (starEach [e] X.env)).all (fun x => !x.1) && (backToKw cpos (keywordEach [] X.env)).all (fun x => x.1.isSome)
      && decide ([e].length + ([] : List Keyword).length + (if ([] : List Keyword).isEmpty then 0 else 1) < 30)) = true := by rfl)
    (hline : (apos.endLine == cpos.line) = true := by rfl) (hs : starEach [e] X.env = (false, eval e X.env) :: starEach [] X.env := by rfl) : ED X (.Call (.Attribute (.Name y p) "append" apos) [e] [] cpos) (wMut1 "list" i mAppend we) :=
  ed_of (pe_bm PySem.F.plainAttrs_list PySem.F.slot_list_append PySem.F.type_list_append mt_append ho (pa_cons ha pa_nil hs) hbase hfew hline hs) (ok_mut1 k_append)
theorem ed_extend {i : Nat} {we : WE} (ho : PE X (.Name y p) (tVar i)) (ha : ED X e we) (hbase : attributeBase (.Name y p) "extend" X.env (eval (.Name y p) X.env) = eval (.Name y p) X.env := by rfl)
    (hfew : ((backTo cpos (starEach [e] X.env)).all (fun x => !x.1) && (backToKw cpos (keywordEach [] X.env)).all (fun x => x.1.isSome)
      && decide ([e].length + ([] : List Keyword).length + (if ([] : List Keyword).isEmpty then 0 else 1) < 30)) = true := by rfl)
    (hline : (apos.endLine == cpos.line) = true := by rfl) (hs : starEach [e] X.env = (false, eval e X.env) :: starEach [] X.env := by rfl) : ED X (.Call (.Attribute (.Name y p) "extend" apos) [e] [] cpos) (wMut1 "list" i mExtend we) :=
  ed_of (pe_bm PySem.F.plainAttrs_list PySem.F.slot_list_extend PySem.F.type_list_extend mt_extend ho (pa_cons ha pa_nil hs) hbase hfew hline hs) (ok_mut1 k_extend)
theorem ed_pop0 {i : Nat} (ho : PE X (.Name y p) (tVar i)) (hbase : attributeBase (.Name y p) "pop" X.env (eval (.Name y p) X.env) = eval (.Name y p) X.env := by rfl) (hline : (apos.endLine == cpos.line) = true := by rfl) :
    ED X (.Call (.Attribute (.Name y p) "pop" apos) [] [] cpos) (wMut0 "list" i mPop0) := ed_of (pe_bm0 PySem.F.plainAttrs_list PySem.F.slot_list_pop PySem.F.type_list_pop mt_pop ho hbase hline) (ok_mut0 k_pop0)
end

/-! ### o[i] = v -/
def setD (o i v : D) (Q : D → Prop) : Prop := match o with
  | .lst l => match i with
    | .int k => ∃ j, ixN l.length k = some j ∧ Q (.lst (l.set j v))
    | _ => False
  | .dct t kd => keyOk t i = true ∧ kd.length < 16777216 ∧ Q (.dct t (putD kd i v))
  | _ => False
def sSub (i : Nat) (wi we : WE) : WS := fun D E => we E fun v E1 => hasE E1 i ∧ wi E1 fun k E2 => match E2[i]? with
  | some (some b) => b.mu = true ∧ setD b.d k.d v.d fun new => D.nx (E2.set i (some (b.put new)))
  | _ => False
section
variable {X : Cx}
abbrev rSetDct : V → V → V → Hp → (Hp → Prop) → Prop := fun o i v H Q => ∃ a H', o = .ref a ∧ DPut H a i v H' ∧ Q H'
theorem set_dct (hu : X.A.units + 1 < cLine) : PSet X rSetDct := by
  intro pins s σ H o i v ov iv u Q I ro ri rv h
  obtain ⟨a, H', rfl, g, q⟩ := h
  cases ro
  exact d_setItem hu I g ri rv fun s4 I4 => ⟨H', I4, q⟩
abbrev rSetAll : V → V → V → Hp → (Hp → Prop) → Prop := fun o i v H Q => rSetL o i v H Q ∨ rSetDct o i v H Q
theorem set_all (hu : X.A.units + 1 < cLine) : PSet X rSetAll := by
  intro pins s σ H o i v ov iv u Q I ro ri rv h
  rcases h with h | h
  · exact set_list pins s σ H o i v ov iv u Q I ro ri rv h
  · exact set_dct hu pins s σ H o i v ov iv u Q I ro ri rv h
theorem sd_sub {i : Nat} {y : Str} {p tpos pos : Pos} {k e : Expr} {wi we : WE} (hu : X.A.units + 1 < cLine) (ho : PE X (.Name y p) (tVar i)) (hi : ED X k wi) (he : ED X e we)
    (ha : ∀ v, assign (.Subscript (.Name y p) k tpos) X.env v = (do
      let ov ← holding [v] (eval (.Name y p) X.env)
      let iv ← holding [v, ov] (eval k X.env)
      standAt tpos
      holding [v, ov, iv] (setItem ov iv v)
      release [v, ov, iv] []) := by intro _; rfl)
    (hs : swapsWithSole [.Subscript (.Name y p) k tpos] e pos.line X.env = pure false := by rfl) (hw : swappedStores [.Subscript (.Name y p) k tpos] e X.env = pure none := by rfl)
    (h1 : (assignEach [.Subscript (.Name y p) k tpos] X.env).map (·.2) = [assign (.Subscript (.Name y p) k tpos) X.env] := by rfl) : SD X (.Assign [.Subscript (.Name y p) k tpos] e pos) (sSub i wi we) :=
  sd_of (ps_asg he (pg_sub ho hi (set_all hu) ha) hs hw h1) fun O G F σ H E D D' en r h => by
    refine tE_bind r h fun v H1 F1 E1 b s1 r1 p1 q1 => ?_
    obtain ⟨F2, s2, r2, p2⟩ := r1.frz p1
    obtain ⟨hE, q1⟩ := q1
    obtain ⟨b0, hb0⟩ := hasE_of hE
    obtain ⟨w, hw, _⟩ := r2.at_ i b0 hb0
    refine ⟨w, hw, ?_⟩
    refine tE_bind r2 q1 fun kv H3 F3 E3 kb s3 r3 p3 q3 => ?_
    obtain ⟨F4, s4, r4, p4⟩ := r3.frz p3
    split at q3
    · rename_i b h
      obtain ⟨a, hv, ho, c, n⟩ := r4.cellAt h q3.1
      rw [hw] at hv; cases hv
      have q := q3.2
      have pv := p2.mono (s3.trans s4)
      unfold setD at q
      split at q
      · rename_i l hl
        rw [hl] at c
        obtain ⟨vs, e, p⟩ := c
        split at q
        · rename_i kk hk
          rw [hk] at p4
          cases p4
          obtain ⟨j, hj, q⟩ := q
          exact .inl ⟨a, vs, kk, j, rfl, rfl, e, by rw [p.length]; exact hj, en.nx _ _ _ _ (r4.write h hw ho (Cell.mkL (p.set pv j))) q⟩
        · exact q.elim
      · rename_i t kd hl
        rw [hl] at c
        obtain ⟨ok, hz, q⟩ := q
        cases t with
        | false =>
          obtain ⟨kvs, e, p⟩ := c
          obtain ⟨key, e1, e2⟩ := p4.key ok
          rw [e1] at q
          subst e2
          refine .inr ⟨a, _, rfl, .inl ⟨kvs, key, e, rfl, by rw [p.length, line_eq]; exact hz, rfl⟩, en.nx _ _ _ _ (r4.write h hw ho (Cell.mkK (p.put pv key))) q⟩
        | true =>
          obtain ⟨kvs, e, p⟩ := c
          obtain ⟨key, b2, e1, e2, e3⟩ := p4.keyT ok
          rw [e1] at q
          subst e2
          refine .inr ⟨a, _, rfl, .inr ⟨kvs, key, b2, e, rfl, r4.f.tup e3, by rw [p.length, line_eq]; exact hz, rfl⟩, en.nx _ _ _ _ (r4.write h hw ho (Cell.mkT (p.put pv key))) q⟩
      · exact q.elim
    · exact q3.elim
end

/-! ### dict displays -/
def wDct0 (t : Bool) : WE := fun E Q => Q (.own (.dct t [])) E
def wPairs : List (WE × WE) → En → (List (D × D) → En → Prop) → Prop
  | [], E, Q => Q [] E
  | (wk, wv) :: r, E, Q => wk E fun k E1 => wv E1 fun v E2 => wPairs r E2 fun ps E3 => Q ((k.d, v.d) :: ps) E3
def wDisp (ws : List (WE × WE)) : WE := fun E Q => wPairs ws E fun ps E1 => (ps.all fun p => keyOk false p.1) = true ∧ ps.length ≤ 15 ∧ Q (.own (.dct false (ps.foldl (fun acc p => putD acc p.1 p.2) []))) E1
section
variable {X : Cx} {pos : Pos}
theorem ed_dct0 : ED X (.Dict [] [] pos) (wDct0 false) := ed_of pe_dnewK fun O G F σ H E Q r q p hp => by
  obtain ⟨F', b, s, r', q', h⟩ := OutB.dctK (Q := fun b => Q b E) (kv := []) (kd := []) r hp .nil q
  exact ⟨F', E, b, s, r', q', h⟩
theorem ed_dctT : ED X (.Dict [] [] pos) (wDct0 true) := ed_of pe_dnewT fun O G F σ H E Q r q p hp => by
  obtain ⟨F', b, s, r', q', h⟩ := OutB.dctT (Q := fun b => Q b E) (kv := []) (kd := []) r hp .nil q
  exact ⟨F', E, b, s, r', q', h⟩
end

inductive RepPP (K : PySem.W.Frag) (F : Hp) : List (V × V) → List (D × D) → Prop
  | nil : RepPP K F [] []
  | cons {k v : V} {vs : List (V × V)} {dk dv : D} {ds : List (D × D)} : Rep K F k dk → Rep K F v dv → RepPP K F vs ds → RepPP K F ((k, v) :: vs) ((dk, dv) :: ds)
theorem RepPP.mono {K : PySem.W.Frag} {F F' : Hp} (s : Sub F F') : ∀ {vs : List (V × V)} {ds : List (D × D)}, RepPP K F vs ds → RepPP K F' vs ds
  | _, _, .nil => .nil
  | _, _, .cons a b r => .cons (a.mono s) (b.mono s) (RepPP.mono s r)
theorem RepPP.keys {K : PySem.W.Frag} {F : Hp} : ∀ {vs : List (V × V)} {ds : List (D × D)}, RepPP K F vs ds → (ds.all fun p => keyOk false p.1) = true → ∃ kvs : List (Key × V), vs = kvs.map (fun kv => (kV kv.1, kv.2)) ∧ RepK K F kvs ds
  | _, _, .nil, _ => ⟨[], rfl, .nil⟩
  | _, _, .cons a b r, h => by
    rw [List.all_cons, Bool.and_eq_true] at h
    obtain ⟨kvs, e1, e2⟩ := RepPP.keys r h.2
    obtain ⟨k, e3, e4⟩ := a.key h.1
    subst e3 e4
    exact ⟨(k, _) :: kvs, by rw [e1]; rfl, .cons b e2⟩
theorem RepK.merge {K : PySem.W.Frag} {F : Hp} : ∀ {more : List (Key × V)} {md : List (D × D)}, RepK K F more md → ∀ {kvs : List (Key × V)} {kd : List (D × D)}, RepK K F kvs kd → RepK K F (mergeK kvs more) (md.foldl (fun acc p => putD acc p.1 p.2) kd)
  | _, _, .nil, _, _, r => r
  | _, _, .cons (k := k) h m, _, _, r => by
    unfold mergeK
    rw [List.foldl_cons, List.foldl_cons]
    exact RepK.merge m (r.put h k)
theorem pairs_ok {K : PySem.W.Frag} {O G : Hp} {σ : L2.St} : ∀ {ws : List (WE × WE)} {F H : Hp} {E : En} {P : List (D × D) → En → Prop} {Q : List (V × V) → Hp → Prop}, R K O G F σ H E → wPairs ws E P →
    (∀ vs H' F' E' ds, Sub F F' → R K O G F' σ H' E' → RepPP K F' vs ds → P ds E' → Q vs H') → tPairs (ws.map fun p => (tE K p.1, tE K p.2)) σ H Q
  | [], F, H, E, P, Q, r, h, k => k [] H F E [] (Sub.refl F) r .nil h
  | (wk, wv) :: ws, F, H, E, P, Q, r, h, k => by
    refine tE_bind r h fun v H1 F1 E1 b s1 r1 p1 q1 => ?_
    obtain ⟨F2, s2, r2, p2⟩ := r1.frz p1
    refine tE_bind r2 q1 fun v' H3 F3 E3 b' s3 r3 p3 q3 => ?_
    obtain ⟨F4, s4, r4, p4⟩ := r3.frz p3
    refine pairs_ok r4 q3 fun vs H5 F5 E5 ds s5 r5 p5 q5 => ?_
    exact k _ H5 F5 E5 _ ((s1.trans s2).trans ((s3.trans s4).trans s5)) r5 (.cons (p2.mono ((s3.trans s4).trans s5)) (p4.mono s5) p5) q5
abbrev PsD (X : Cx) (pos : Pos) (keys : List (Option Expr)) (values : List Expr) (ws : List (WE × WE)) : Prop := PPs X pos keys values (ws.map fun p => (tE X.K p.1, tE X.K p.2))
section
variable {X : Cx} {pos : Pos}
theorem psd_n : PsD X pos [] [] [] := pps_nil
theorem psd_c {k v : Expr} {ks : List (Option Expr)} {vs : List Expr} {wk wv : WE} {ws : List (WE × WE)} (hk : ED X k wk) (hv : ED X v wv) (hr : PsD X pos ks vs ws) : PsD X pos (some k :: ks) (v :: vs) ((wk, wv) :: ws) := pps_cons hk hv hr
theorem ed_disp {keys : List (Option Expr)} {values : List Expr} {ws : List (WE × WE)} (h : PsD X pos keys values ws) (hall : keys.all (·.isSome) = true) (hl : keys.length = values.length) (h0 : keys ≠ []) (h15 : keys.length ≤ 15) : ED X (.Dict keys values pos) (wDisp ws) :=
  ed_of (pe_disp h hall hl h0 h15) fun O G F σ H E Q r q p hp => by
    have np := r.f.gone hp
    have op := r.oNone hp
    have r1 := (r.alloc (u := .dK []) hp).hide upd_same np (r.notOwned hp)
    refine pairs_ok r1 q fun vs H1 F1 E1 ds s1 r2 p1 ⟨ok, h15, q1⟩ => ?_
    have n1 : F1 p = none := by
      rcases (r2.o p _ upd_same).2 with z | z
      · exact z
      · cases z
    obtain ⟨kvs, e1, e2⟩ := p1.keys ok
    have hp1 := (r2.o p _ upd_same).1
    obtain ⟨r3, w3⟩ := r2.unhide (u' := .dK (mergeK [] kvs)) n1 op
    refine ⟨hp1, kvs, e1, by rw [e2.length]; exact h15, F1, E1, .own _, s1, r3, ⟨⟨p, rfl, n1, op, Cell.mkK (e2.merge .nil)⟩, fun a ea w => ?_⟩, q1⟩
    cases ea
    exact w3 w
end
end PW

set_option Elab.async false
set_option linter.all false
set_option autoImplicit false
set_option maxRecDepth 100000
set_option maxHeartbeats 4000000
namespace PW
open PySem PySem.Spec PyProof.Rows L2

/-! ### room -/
theorem rm1 {k : Nat} {A : Around} (h : Room k A) : A.units + 1 < cLine := by have := h.un; omega
theorem rm64 {k : Nat} {A : Around} (h : Room k A) : A.units + 64 < cLine := by have := h.un; omega
theorem rm65 {k : Nat} {A : Around} (h : Room k A) : A.units + 65 < cLine := by have := h.un; omega

/-! ### promises by the number of arguments -/
def fs0 (f : (B → Prop) → Prop) : FS := fun ds P => ds = [] ∧ f P
def fs1 (f : D → (B → Prop) → Prop) : FS := fun ds P => ∃ a, ds = [a] ∧ f a P
def fs2 (f : D → D → (B → Prop) → Prop) : FS := fun ds P => ∃ a b, ds = [a, b] ∧ f a b P
def fs3 (f : D → D → D → (B → Prop) → Prop) : FS := fun ds P => ∃ a b c, ds = [a, b, c] ∧ f a b c P
def fs4 (f : D → D → D → D → (B → Prop) → Prop) : FS := fun ds P => ∃ a b c d, ds = [a, b, c, d] ∧ f a b c d P
def fs5 (f : D → D → D → D → D → (B → Prop) → Prop) : FS := fun ds P => ∃ a b c d e, ds = [a, b, c, d, e] ∧ f a b c d e P
def fs6 (f : D → D → D → D → D → D → (B → Prop) → Prop) : FS := fun ds P => ∃ a b c d e g, ds = [a, b, c, d, e, g] ∧ f a b c d e g P
theorem fs0_iff {f : (B → Prop) → Prop} {P : B → Prop} : fs0 f [] P ↔ f P := by simp [fs0]
theorem fs1_iff {f : D → (B → Prop) → Prop} {a : D} {P : B → Prop} : fs1 f [a] P ↔ f a P := by simp [fs1]
theorem fs2_iff {f : D → D → (B → Prop) → Prop} {a b : D} {P : B → Prop} : fs2 f [a, b] P ↔ f a b P :=
  ⟨fun ⟨_, _, e, h⟩ => by cases e; exact h, fun h => ⟨_, _, rfl, h⟩⟩
theorem fs3_iff {f : D → D → D → (B → Prop) → Prop} {a b c : D} {P : B → Prop} : fs3 f [a, b, c] P ↔ f a b c P :=
  ⟨fun ⟨_, _, _, e, h⟩ => by cases e; exact h, fun h => ⟨_, _, _, rfl, h⟩⟩
theorem fs4_iff {f : D → D → D → D → (B → Prop) → Prop} {a b c d : D} {P : B → Prop} : fs4 f [a, b, c, d] P ↔ f a b c d P :=
  ⟨fun ⟨_, _, _, _, e, h⟩ => by cases e; exact h, fun h => ⟨_, _, _, _, rfl, h⟩⟩
theorem fs5_iff {f : D → D → D → D → D → (B → Prop) → Prop} {a b c d e : D} {P : B → Prop} : fs5 f [a, b, c, d, e] P ↔ f a b c d e P :=
  ⟨fun ⟨_, _, _, _, _, e, h⟩ => by cases e; exact h, fun h => ⟨_, _, _, _, _, rfl, h⟩⟩
theorem fs6_iff {f : D → D → D → D → D → D → (B → Prop) → Prop} {a b c d e g : D} {P : B → Prop} : fs6 f [a, b, c, d, e, g] P ↔ f a b c d e g P :=
  ⟨fun ⟨_, _, _, _, _, _, e, h⟩ => by cases e; exact h, fun h => ⟨_, _, _, _, _, _, rfl, h⟩⟩
/-- the first argument a cell that may change, and so many more -/
def ps0 (f : D → (B → D → Prop) → Prop) : PFS := fun d ds P => ds = [] ∧ f d P
def ps1 (f : D → D → (B → D → Prop) → Prop) : PFS := fun d ds P => ∃ a, ds = [a] ∧ f d a P
def ps2 (f : D → D → D → (B → D → Prop) → Prop) : PFS := fun d ds P => ∃ a b, ds = [a, b] ∧ f d a b P
def ps3 (f : D → D → D → D → (B → D → Prop) → Prop) : PFS := fun d ds P => ∃ a b c, ds = [a, b, c] ∧ f d a b c P
def ps4 (f : D → D → D → D → D → (B → D → Prop) → Prop) : PFS := fun d ds P => ∃ a b c e, ds = [a, b, c, e] ∧ f d a b c e P
theorem ps0_iff {f : D → (B → D → Prop) → Prop} {d : D} {P : B → D → Prop} : ps0 f d [] P ↔ f d P := by simp [ps0]
theorem ps1_iff {f : D → D → (B → D → Prop) → Prop} {d a : D} {P : B → D → Prop} : ps1 f d [a] P ↔ f d a P := by simp [ps1]
theorem ps2_iff {f : D → D → D → (B → D → Prop) → Prop} {d a b : D} {P : B → D → Prop} : ps2 f d [a, b] P ↔ f d a b P :=
  ⟨fun ⟨_, _, e, h⟩ => by cases e; exact h, fun h => ⟨_, _, rfl, h⟩⟩
theorem ps3_iff {f : D → D → D → D → (B → D → Prop) → Prop} {d a b c : D} {P : B → D → Prop} : ps3 f d [a, b, c] P ↔ f d a b c P :=
  ⟨fun ⟨_, _, _, e, h⟩ => by cases e; exact h, fun h => ⟨_, _, _, rfl, h⟩⟩
theorem ps4_iff {f : D → D → D → D → D → (B → D → Prop) → Prop} {d a b c e : D} {P : B → D → Prop} : ps4 f d [a, b, c, e] P ↔ f d a b c e P :=
  ⟨fun ⟨_, _, _, _, e, h⟩ => by cases e; exact h, fun h => ⟨_, _, _, _, rfl, h⟩⟩

/-! ### a def of the text keeps its promise -/
section
variable {P : Program} {w : World} {K : PySem.W.Frag} {mg : Str → Option Value} {base : Heap} {x qual : Str} {st : Stmt} {f : Addr} {fd : FuncData} {N ps : List Str} {k : Nat}
def DerOk (P : Program) (w : World) (K : PySem.W.Frag) (mg : Str → Option Value) (base : Heap) (N : List Str) (qual : Str) (st : Stmt) (f : Addr) (k : Nat) (ws : WS) : Prop :=
  ∀ (cdv : Value) (A : Around) (outer : List Env) (s : Shared) (H : Hp) (E : XK), Room k (A.deeper (envOfC qual (defScope st) s.heap.objs.size f cdv)) → BD (cxOf CX0 P w K mg base N qual (defScope st) f cdv A outer s H E).nox (defBody st) ws
theorem okF {fs : FS} {ws : WS} (F : Fun K x qual st f fd) (S : FnScope N ps (defScope st)) (hl : ∀ ds Pp, fs ds Pp → ds.length = ps.length) (hN : ps.length ≤ N.length)
    (der : DerOk P w K mg base N qual st f k ws) (law : ∀ ds Pp, fs ds Pp → ws { nx := fun _ => Pp (.dat .non), rt := fun b _ => Pp b } (start0 N (ds.map .dat))) : FnOk P w K mg base CX0 (k + 1) f fd ps (spF K fs) := by
  refine F.ok S (fun vs H Q E ⟨G, ds, Pp, _, r, h, _⟩ => ?_) fun cdv A outer s H vs Q E hr h => ⟨tS K ws, der cdv A outer s H E hr, ?_⟩
  · rw [r.length, hl _ _ h]
  · refine body_F tS_ok ?_ law h
    obtain ⟨G, ds, Pp, _, r, h, _⟩ := h
    rw [r.length, hl _ _ h]; exact hN
theorem okP {fs : PFS} {ws : WS} (F : Fun K x qual st f fd) (S : FnScope N ps (defScope st)) (hl : ∀ d ds Pp, fs d ds Pp → ds.length + 1 = ps.length) (hN : ps.length ≤ N.length)
    (der : DerOk P w K mg base N qual st f k ws) (law : ∀ p d ds Pp, fs d ds Pp → ws { nx := fun E => ∃ d', E[0]? = some (some (.par p d')) ∧ Pp (.dat .non) d', rt := fun b E => ∃ d', E[0]? = some (some (.par p d')) ∧ Pp b d' } (start0 N (.par p d :: ds.map .dat))) : FnOk P w K mg base CX0 (k + 1) f fd ps (spP K fs) := by
  refine F.ok S (fun vs H Q E ⟨G, p, d, ws', ds, Pp, e, _, _, _, r, h, _⟩ => ?_) fun cdv A outer s H vs Q E hr h => ⟨tS K ws, der cdv A outer s H E hr, ?_⟩
  · rw [e, List.length_cons, r.length, hl _ _ _ h]
  · refine body_P tS_ok ?_ law h
    obtain ⟨G, p, d, ws', ds, Pp, e, _, _, _, r, h, _⟩ := h
    rw [e, List.length_cons, r.length, hl _ _ _ h]; exact hN
/-- what a body must show -/
def noE : En → Prop := fun _ => False
def sta (n : Nat) (bs : List B) : En := bs.map some ++ List.replicate (n - bs.length) none
def LF (n : Nat) (ws : WS) (bs : List D) (Pp : B → Prop) : Prop := ws ⟨fun _ => Pp (.dat .non), fun b _ => Pp b, noE, noE⟩ (sta n (bs.map .dat))
/-- the cell's data at the end -/
def endP (p : Addr) (Pp : B → D → Prop) (b : B) (E : En) : Prop := ∃ d', E[0]? = some (some (.par p d')) ∧ Pp b d'
def LP (n : Nat) (ws : WS) (p : Addr) (d : D) (bs : List D) (Pp : B → D → Prop) : Prop :=
  ws ⟨endP p Pp (.dat .non), endP p Pp, noE, noE⟩ (sta n (.par p d :: bs.map .dat))
variable {ws : WS}
theorem okF0 {g : (B → Prop) → Prop} (F : Fun K x qual st f fd) (S : FnScope N [] (defScope st)) (der : DerOk P w K mg base N qual st f k ws) (law : ∀ Pp, g Pp → LF N.length ws [] Pp) : FnOk P w K mg base CX0 (k + 1) f fd [] (spF K (fs0 g)) :=
  okF F S (fun ds Pp ⟨e, h⟩ => by rw [e]; rfl) (Nat.zero_le _) der fun ds Pp ⟨e, h⟩ => by subst e; exact law Pp h
theorem okF1 {g : D → (B → Prop) → Prop} {p1 : Str} (F : Fun K x qual st f fd) (S : FnScope N [p1] (defScope st)) (hN : 1 ≤ N.length) (der : DerOk P w K mg base N qual st f k ws) (law : ∀ a Pp, g a Pp → LF N.length ws [a] Pp) : FnOk P w K mg base CX0 (k + 1) f fd [p1] (spF K (fs1 g)) :=
  okF F S (fun ds Pp ⟨_, e, h⟩ => by rw [e]; rfl) hN der fun ds Pp ⟨_, e, h⟩ => by subst e; exact law _ Pp h
theorem okF2 {g : D → D → (B → Prop) → Prop} {p1 p2 : Str} (F : Fun K x qual st f fd) (S : FnScope N [p1, p2] (defScope st)) (hN : 2 ≤ N.length) (der : DerOk P w K mg base N qual st f k ws) (law : ∀ a b Pp, g a b Pp → LF N.length ws [a, b] Pp) : FnOk P w K mg base CX0 (k + 1) f fd [p1, p2] (spF K (fs2 g)) :=
  okF F S (fun ds Pp ⟨_, _, e, h⟩ => by rw [e]; rfl) hN der fun ds Pp ⟨_, _, e, h⟩ => by subst e; exact law _ _ Pp h
theorem okF3 {g : D → D → D → (B → Prop) → Prop} {p1 p2 p3 : Str} (F : Fun K x qual st f fd) (S : FnScope N [p1, p2, p3] (defScope st)) (hN : 3 ≤ N.length) (der : DerOk P w K mg base N qual st f k ws) (law : ∀ a b c Pp, g a b c Pp → LF N.length ws [a, b, c] Pp) : FnOk P w K mg base CX0 (k + 1) f fd [p1, p2, p3] (spF K (fs3 g)) :=
  okF F S (fun ds Pp ⟨_, _, _, e, h⟩ => by rw [e]; rfl) hN der fun ds Pp ⟨_, _, _, e, h⟩ => by subst e; exact law _ _ _ Pp h
theorem okF4 {g : D → D → D → D → (B → Prop) → Prop} {p1 p2 p3 p4 : Str} (F : Fun K x qual st f fd) (S : FnScope N [p1, p2, p3, p4] (defScope st)) (hN : 4 ≤ N.length) (der : DerOk P w K mg base N qual st f k ws) (law : ∀ a b c d Pp, g a b c d Pp → LF N.length ws [a, b, c, d] Pp) : FnOk P w K mg base CX0 (k + 1) f fd [p1, p2, p3, p4] (spF K (fs4 g)) :=
  okF F S (fun ds Pp ⟨_, _, _, _, e, h⟩ => by rw [e]; rfl) hN der fun ds Pp ⟨_, _, _, _, e, h⟩ => by subst e; exact law _ _ _ _ Pp h
theorem okF5 {g : D → D → D → D → D → (B → Prop) → Prop} {p1 p2 p3 p4 p5 : Str} (F : Fun K x qual st f fd) (S : FnScope N [p1, p2, p3, p4, p5] (defScope st)) (hN : 5 ≤ N.length) (der : DerOk P w K mg base N qual st f k ws) (law : ∀ a b c d e Pp, g a b c d e Pp → LF N.length ws [a, b, c, d, e] Pp) : FnOk P w K mg base CX0 (k + 1) f fd [p1, p2, p3, p4, p5] (spF K (fs5 g)) :=
  okF F S (fun ds Pp ⟨_, _, _, _, _, e, h⟩ => by rw [e]; rfl) hN der fun ds Pp ⟨_, _, _, _, _, e, h⟩ => by subst e; exact law _ _ _ _ _ Pp h
theorem okF6 {g : D → D → D → D → D → D → (B → Prop) → Prop} {p1 p2 p3 p4 p5 p6 : Str} (F : Fun K x qual st f fd) (S : FnScope N [p1, p2, p3, p4, p5, p6] (defScope st)) (hN : 6 ≤ N.length) (der : DerOk P w K mg base N qual st f k ws) (law : ∀ a b c d e h Pp, g a b c d e h Pp → LF N.length ws [a, b, c, d, e, h] Pp) : FnOk P w K mg base CX0 (k + 1) f fd [p1, p2, p3, p4, p5, p6] (spF K (fs6 g)) :=
  okF F S (fun ds Pp ⟨_, _, _, _, _, _, e, h⟩ => by rw [e]; rfl) hN der fun ds Pp ⟨_, _, _, _, _, _, e, h⟩ => by subst e; exact law _ _ _ _ _ _ Pp h
theorem okP0 {g : D → (B → D → Prop) → Prop} {p1 : Str} (F : Fun K x qual st f fd) (S : FnScope N [p1] (defScope st)) (hN : 1 ≤ N.length) (der : DerOk P w K mg base N qual st f k ws) (law : ∀ p a Pp, g a Pp → LP N.length ws p a [] Pp) : FnOk P w K mg base CX0 (k + 1) f fd [p1] (spP K (ps0 g)) :=
  okP F S (fun d ds Pp ⟨e, h⟩ => by rw [e]; rfl) hN der fun p d ds Pp ⟨e, h⟩ => by subst e; exact law p d Pp h
theorem okP1 {g : D → D → (B → D → Prop) → Prop} {p1 p2 : Str} (F : Fun K x qual st f fd) (S : FnScope N [p1, p2] (defScope st)) (hN : 2 ≤ N.length) (der : DerOk P w K mg base N qual st f k ws) (law : ∀ p a b Pp, g a b Pp → LP N.length ws p a [b] Pp) : FnOk P w K mg base CX0 (k + 1) f fd [p1, p2] (spP K (ps1 g)) :=
  okP F S (fun d ds Pp ⟨_, e, h⟩ => by rw [e]; rfl) hN der fun p d ds Pp ⟨_, e, h⟩ => by subst e; exact law p d _ Pp h
theorem okP2 {g : D → D → D → (B → D → Prop) → Prop} {p1 p2 p3 : Str} (F : Fun K x qual st f fd) (S : FnScope N [p1, p2, p3] (defScope st)) (hN : 3 ≤ N.length) (der : DerOk P w K mg base N qual st f k ws) (law : ∀ p a b c Pp, g a b c Pp → LP N.length ws p a [b, c] Pp) : FnOk P w K mg base CX0 (k + 1) f fd [p1, p2, p3] (spP K (ps2 g)) :=
  okP F S (fun d ds Pp ⟨_, _, e, h⟩ => by rw [e]; rfl) hN der fun p d ds Pp ⟨_, _, e, h⟩ => by subst e; exact law p d _ _ Pp h
theorem okP3 {g : D → D → D → D → (B → D → Prop) → Prop} {p1 p2 p3 p4 : Str} (F : Fun K x qual st f fd) (S : FnScope N [p1, p2, p3, p4] (defScope st)) (hN : 4 ≤ N.length) (der : DerOk P w K mg base N qual st f k ws) (law : ∀ p a b c d Pp, g a b c d Pp → LP N.length ws p a [b, c, d] Pp) : FnOk P w K mg base CX0 (k + 1) f fd [p1, p2, p3, p4] (spP K (ps3 g)) :=
  okP F S (fun d ds Pp ⟨_, _, _, e, h⟩ => by rw [e]; rfl) hN der fun p d ds Pp ⟨_, _, _, e, h⟩ => by subst e; exact law p d _ _ _ Pp h
end

/-! ### truth -/
def truD : D → Bool
  | .non => false | .bl b => b | .int i => i != 0 | .str s => (s.length : Int) != 0 | .tup l => !l.isEmpty | .lst l => !l.isEmpty | .scr l => !l.isEmpty | .dct _ l => !l.isEmpty
def truOk : D → Prop
  | .str s => s.length ≤ 16777216
  | .dct t _ => t = false
  | _ => True
def wTru (wo : WO) : WT := fun E Q => wo E fun o E1 => match o.get E1 with
  | some d => truOk d ∧ Q (truD d) E1
  | _ => False
theorem truV_of {K : PySem.W.Frag} {F H : Hp} {v : V} {d : D} (h : Rdb K F H v d) (s : Sub F H) (ok : truOk d) : TruV K v H (truD d) ∨ ∃ a kv, v = .ref a ∧ Rd H a (.dK kv) ∧ truD d = !kv.isEmpty := by
  cases d with
  | non => rw [h.non]; exact .inl rfl
  | bl b => rw [h.bl]; exact .inl rfl
  | int i => rw [h.int]; exact .inl rfl
  | str l =>
    rw [h.str]
    refine .inl ?_
    exact ⟨by rw [mkS_length, line_eq]; exact ok, by rw [mkS_length]; rfl⟩
  | tup l =>
    obtain ⟨a, vs, rfl, h1, p⟩ := h.tup s
    exact .inl (.inr (.inl ⟨vs, SqT.of h1, by cases p <;> rfl⟩))
  | lst l =>
    obtain ⟨a, vs, rfl, h1, p⟩ := h.lst s
    exact .inl (.inl ⟨vs, SqL.of h1, by cases p <;> rfl⟩)
  | scr l =>
    obtain ⟨a, rfl, h1⟩ := h.scr s
    exact .inl (.inl ⟨_, h1, by cases l <;> rfl⟩)
  | dct t l =>
    have ok : t = false := ok
    subst ok
    obtain ⟨a, kv, rfl, h1, p⟩ := h.dK s
    exact .inr ⟨a, kv, rfl, h1, by cases p <;> rfl⟩
section
variable {X : Cx} {a e b c : Expr} {pos : Pos}
theorem td_v {w : WE} (h : ED X e w) (hp : ∀ whole, isTrue e X.env whole = (do let v ← whole; standAt e.pos; holding [v] (truthy v)) := by intro _; rfl) : TD X e (wTst w) := td_of (pt_val h hp) ok_tB
theorem pt_truthG {ta : TE} (ha : PE X a ta) (he : ∀ whole, isTrue a X.env whole = (do let v ← whole; standAt a.pos; holding [v] (truthy v))) :
    PT X a (fun σ H Q => ta σ H fun x H' => ∃ k, (TruV X.K x H' k ∨ ∃ d kv, x = .ref d ∧ Rd H' d (.dK kv) ∧ k = !kv.isEmpty) ∧ Q k H') := by
  refine ⟨fun pins s σ H Q I h => ?_⟩
  refine isTrue_plain (thn (ha.run pins s σ H _ I h) fun v s1 ⟨x, H1, I1, r1, k, q1, q2⟩ => ?_) (he _)
  rcases q1 with q1 | ⟨d, kv, rfl, hd, rfl⟩
  · exact tru_ok pins s1 σ H1 x v Q I1 r1 ⟨k, q1, q2⟩
  · cases r1
    exact d_truth I1 hd fun s' I' => ⟨H1, I', q2⟩
theorem td_tru {wo : WO} (h : OD X a wo) (hp : ∀ whole, isTrue a X.env whole = (do let v ← whole; standAt a.pos; holding [v] (truthy v)) := by intro _; rfl) : TD X a (wTru wo) := td_of (pt_truthG h hp) fun O G F σ H E Q r q => by
  refine tO_bind r q fun x H1 F1 E1 o s1 r1 p1 q1 => ?_
  split at q1
  · rename_i d ed
    exact ⟨_, truV_of (r1.rdb p1 ed) r1.f q1.1, F1, E1, s1, r1, q1.2⟩
  · exact q1.elim

/-! ### a < b < c -/
def wChain (wr wr' : D → D → (B → Prop) → Prop) (wa wb wc : WO) : WE := fun E Q => wa E fun oa E1 => wb E1 fun ob E2 => match oa.get E2, ob.get E2 with
  | some x, some y => wr x y fun b => match b with
    | .dat (.bl k) => if k = true then wc E2 fun oc E3 => (match oc.get E3, ob.get E3 with
        | some z, some y' => wr' y' z fun b => Q b E3
        | _, _ => False) else Q (.dat (.bl false)) E2
    | _ => False
  | _, _ => False
theorem chainK {K : PySem.W.Frag} {r r' : R2} {wr wr' : D → D → (B → Prop) → Prop} {wa wb wc : WO} (h : Op2Ok K r wr) (h' : Op2Ok K r' wr') {O G F : Hp} {σ : L2.St} {H : Hp} {E : En} {P : B → En → Prop} {Q : VK} (r0 : R K O G F σ H E) (q : wChain wr wr' wa wb wc E P)
    (fin : ∀ v H' F' E' b, Sub F F' → R K O G F' σ H' E' → RR K O F' σ H' E' v b → P b E' → Q v H') : tChain r r' (tO K wa) (tO K wb) (tO K wc) σ H Q := by
  refine tO_bind r0 q fun x H1 F1 E1 oa s1 r1 p1 q1 => ?_
  refine tO_bind r1 q1 fun y H2 F2 E2 ob s2 r2 p2 q2 => ?_
  split at q2
  · rename_i dx dy ex ey
    refine h O G F2 σ H2 E2 x y dx dy _ _ r2 (r2.rdb (p1.mono s2) ex) (r2.rdb p2 ey) q2 ?_
    intro v H' ⟨F', b, s3, r3, p3, q3⟩
    dsimp only at q3
    split at q3
    · rename_i k
      have p := p3.1
      have e : v = .bl k := by cases p; rfl
      refine ⟨k, e, ?_⟩
      cases k with
      | true =>
        refine tO_bind r3 q3 fun z H4 F4 E4 oc s4 r4 p4 q4 => ?_
        split at q4
        · rename_i dz dy' ez ey'
          refine h' O G F4 σ H4 E4 y z dy' dz _ _ r4 (r4.rdb ((p2.mono s3).mono s4) ey') (r4.rdb p4 ez) q4 ?_
          intro v H' ⟨F', b, s5, r5, p5, q5⟩
          exact fin v H' F' E4 b ((((s1.trans s2).trans s3).trans s4).trans s5) r5 p5 q5
        · exact q4.elim
      | false => exact fin _ _ F' E2 _ ((s1.trans s2).trans s3) r3 (datRR (.bl _)) q3
    · exact q3.elim
  · exact q2.elim
theorem ok_chain {K : PySem.W.Frag} {r r' : R2} {wr wr' : D → D → (B → Prop) → Prop} {wa wb wc : WO} (h : Op2Ok K r wr) (h' : Op2Ok K r' wr') : EOk K (tChain r r' (tO K wa) (tO K wb) (tO K wc)) (wChain wr wr' wa wb wc) := fun O G F σ H E Q r0 q =>
  chainK h h' r0 q fun v H' F' E' b s r p q => ⟨F', E', b, s, r, p, q⟩
theorem ed_chain {op op' : CmpOp} {r r' : R2} {wr wr' : D → D → (B → Prop) → Prop} {wa wb wc : WO} (ho : OpR X (compareOp op) r) (hk : Op2Ok X.K r wr) (ho' : OpR X (compareOp op') r') (hk' : Op2Ok X.K r' wr') (ha : OD X a wa) (hb : OD X b wb) (hc : OD X c wc)
    (hm : lastMarks [op, op'] [b, c] = false := by with_unfolding_all rfl) : ED X (.Compare a [op, op'] [b, c] pos) (wChain wr wr' wa wb wc) := ed_of (pe_chain ho ho' ha hb hc hm) (ok_chain hk hk')
theorem td_chain {op op' : CmpOp} {r r' : R2} {wr wr' : D → D → (B → Prop) → Prop} {wa wb wc : WO} (ho : OpR X (compareOp op) r) (hk : Op2Ok X.K r wr) (ho' : OpR X (compareOp op') r') (hk' : Op2Ok X.K r' wr') (ha : OD X a wa) (hb : OD X b wb) (hc : OD X c wc)
    (hm : lastMarks [op, op'] [b, c] = false := by with_unfolding_all rfl) : TD X (.Compare a [op, op'] [b, c] pos) (wTst (wChain wr wr' wa wb wc)) := td_of (pt_chain ho ho' ha hb hc hm) fun O G F σ H E Q r0 q => by
  refine chainK hk hk' r0 q fun v H' F' E' b s r' p q' => ?_
  split at q'
  · rename_i k
    have p := p.1
    have e : v = .bl k := by cases p; rfl
    exact ⟨k, e, F', E', s, r', q'⟩
  · exact q'.elim
end
end PW

set_option Elab.async false
set_option linter.all false
set_option autoImplicit false
set_option maxRecDepth 100000
set_option maxHeartbeats 4000000
namespace PW
open PySem PySem.Spec PyProof.Rows L2

/-! ### a, b = e, f -/
def sPar (i j : Nat) (a : WA) : WS := fun D E => a E fun ds E1 => match ds with
  | [x, y] => D.nx ((E1.set i (some (.dat x))).set j (some (.dat y)))
  | _ => False
def sPar3 (i j l : Nat) (a : WA) : WS := fun D E => a E fun ds E1 => match ds with
  | [x, y, z] => D.nx (((E1.set i (some (.dat x))).set j (some (.dat y))).set l (some (.dat z)))
  | _ => False
section
variable {X : Cx} {a b c : Expr} {pos : Pos}
theorem sd_par {i j : Nat} {x y : Str} {wa : WA} {px py pt : Pos} {kt k2 pt2} (hc : X.calm = true) (hN : X.N.Nodup) (hi : X.N[i]? = some x) (hj : X.N[j]? = some y) (hij : i ≠ j)
    (hx : X.env.scope.names.lookup x = some .local) (hy : X.env.scope.names.lookup y = some .local) (ha : AD X [a, b] wa)
    (hw : swappedStores [.Tuple [.Name x px, .Name y py] kt pt] (.Tuple [a, b] k2 pt2) X.env = pure (some [x, y]))
    (hs : swapsWithSole [.Tuple [.Name x px, .Name y py] kt pt] (.Tuple [a, b] k2 pt2) pos.line X.env = pure false := by rfl) :
    SD X (.Assign [.Tuple [.Name x px, .Name y py] kt pt] (.Tuple [a, b] k2 pt2) pos) (sPar i j wa) := sd_of (ps_par hc hN hi hj hij hx hy ha hw hs) fun O G F σ H E D D' en r h => by
  refine tA_bind r h fun vs H1 F1 E1 ds s1 r1 p1 q1 => ?_
  split at q1
  · cases p1 with
    | cons h1 p1 => cases p1 with
      | cons h2 p1 => cases p1; exact ⟨_, _, rfl, en.nx _ _ _ _ ((r1.set i (datRR h1)).set j (datRR h2)) q1⟩
  · exact q1.elim
theorem sd_par3 {i j l : Nat} {x y z : Str} {wa : WA} {px py pz pt : Pos} {kt k2 pt2} (hc : X.calm = true) (hN : X.N.Nodup) (hi : X.N[i]? = some x) (hj : X.N[j]? = some y) (hl : X.N[l]? = some z) (hij : i ≠ j) (hil : i ≠ l) (hjl : j ≠ l)
    (hx : X.env.scope.names.lookup x = some .local) (hy : X.env.scope.names.lookup y = some .local) (hz : X.env.scope.names.lookup z = some .local) (ha : AD X [a, b, c] wa)
    (hw : swappedStores [.Tuple [.Name x px, .Name y py, .Name z pz] kt pt] (.Tuple [a, b, c] k2 pt2) X.env = pure (some [x, y, z]))
    (hs : swapsWithSole [.Tuple [.Name x px, .Name y py, .Name z pz] kt pt] (.Tuple [a, b, c] k2 pt2) pos.line X.env = pure false := by rfl) :
    SD X (.Assign [.Tuple [.Name x px, .Name y py, .Name z pz] kt pt] (.Tuple [a, b, c] k2 pt2) pos) (sPar3 i j l wa) := sd_of (ps_par3 hc hN hi hj hl hij hil hjl hx hy hz ha hw hs) fun O G F σ H E D D' en r h => by
  refine tA_bind r h fun vs H1 F1 E1 ds s1 r1 p1 q1 => ?_
  split at q1
  · cases p1 with
    | cons h1 p1 => cases p1 with
      | cons h2 p1 => cases p1 with
        | cons h3 p1 => cases p1; exact ⟨_, _, _, rfl, en.nx _ _ _ _ (((r1.set i (datRR h1)).set j (datRR h2)).set l (datRR h3)) q1⟩
  · exact q1.elim
end

/-! ### x is True -/
def isBl : D → D → Bool
  | .bl a, .bl b => a == b
  | _, _ => false
def isBool : D → Bool
  | .bl _ => true
  | _ => false
def wIsB (x y : D) (Q : B → Prop) : Prop := isBool y = true ∧ Q (.dat (.bl (isBl x y)))
def wNotB (x y : D) (Q : B → Prop) : Prop := isBool y = true ∧ Q (.dat (.bl (!isBl x y)))
section
variable {X : Cx} {K : PySem.W.Frag}
theorem op_isBl : OpR X (compareOp .Is) (fun x y H Q => ∃ b, y = .bl b ∧ Q (.bl (decide (x = .bl b))) H) := by
  intro pins s σ H x y v u Q I rx ry ⟨b, e, q⟩
  subst e
  cases ry
  refine wpAny_is_plain (by cases x <;> (first | (cases rx; rfl) | (obtain ⟨t, rfl⟩ := rx; rfl))) ⟨.bl (v == .bool b), H, I, rfl, ?_⟩
  rwa [show decide (x = .bl b) = (v == .bool b) from ?_] at q
  cases x <;> (first | (cases rx) | (obtain ⟨t, rfl⟩ := rx)) <;> first
    | rfl
    | (rw [decide_eq_false (by intro z; cases z)]; rfl)
    | (rename_i c; cases b <;> cases c <;> rfl)
theorem op_notBl : OpR X (compareOp .IsNot) (fun x y H Q => ∃ b, y = .bl b ∧ Q (.bl (!decide (x = .bl b))) H) := by
  intro pins s σ H x y v u Q I rx ry ⟨b, e, q⟩
  subst e
  cases ry
  refine wpAny_isNot_plain (by cases x <;> (first | (cases rx; rfl) | (obtain ⟨t, rfl⟩ := rx; rfl))) ⟨.bl (!(v == .bool b)), H, I, rfl, ?_⟩
  rwa [show decide (x = .bl b) = (v == .bool b) from ?_] at q
  cases x <;> (first | (cases rx) | (obtain ⟨t, rfl⟩ := rx)) <;> first
    | rfl
    | (rw [decide_eq_false (by intro z; cases z)]; rfl)
    | (rename_i c; cases b <;> cases c <;> rfl)
theorem Rdb.isBl {F H : Hp} {v : V} {d : D} {b : Bool} (h : Rdb K F H v d) : decide (v = .bl b) = isBl d (.bl b) := by
  rcases h with h | ⟨a, e, c⟩
  · cases h <;> first | (rename_i c; cases b <;> cases c <;> rfl) | exact decide_eq_false (by intro z; cases z)
  · subst e
    cases d <;> first | exact decide_eq_false (by intro z; cases z) | exact c.elim
theorem isBool_eq {d : D} (h : isBool d = true) : ∃ b, d = .bl b := by cases d <;> first | exact ⟨_, rfl⟩ | cases h
theorem k_isB : Op2Ok K (fun x y H Q => ∃ b, y = .bl b ∧ Q (.bl (decide (x = .bl b))) H) wIsB := by
  intro O G F σ H E x y dx dy Q Q' r hx hy ⟨ok, q⟩ k
  obtain ⟨b, e⟩ := isBool_eq ok
  subst e
  exact ⟨b, hy.bl, by rw [hx.isBl]; exact k _ _ (.dat r (.bl _) q)⟩
theorem k_notB : Op2Ok K (fun x y H Q => ∃ b, y = .bl b ∧ Q (.bl (!decide (x = .bl b))) H) wNotB := by
  intro O G F σ H E x y dx dy Q Q' r hx hy ⟨ok, q⟩ k
  obtain ⟨b, e⟩ := isBool_eq ok
  subst e
  exact ⟨b, hy.bl, by rw [hx.isBl]; exact k _ _ (.dat r (.bl _) q)⟩
end

/-! ### a list or a text, so many times -/
def wMulG : D → D → (B → Prop) → Prop
  | .int i, .int j, Q => MulOk i j ∧ Q (.dat (.int (i * j)))
  | .lst l, .int k, Q => (-(2 ^ 63) ≤ k ∧ k < 2 ^ 63 ∧ l.length * k.toNat ≤ 16777216) ∧ Q (.own (.lst (List.replicate k.toNat l).flatten))
  | .str l, .int k, Q => (k < 1000000 ∧ -1000000 < k ∧ l.length ≤ 16) ∧ Q (.dat (.str (List.replicate k.toNat l).flatten))
  | _, _, _ => False
theorem foldl_app (a : Array Nat) : ∀ (n : Nat) (z : Array Nat), ((List.replicate n a).foldl (· ++ ·) z) = z ++ ((List.replicate n a.toList).flatten).toArray
  | 0, z => by simp
  | n + 1, z => by
    rw [List.replicate_succ, List.foldl_cons, foldl_app a n]
    rw [List.replicate_succ, List.flatten_cons]
    apply Array.ext'
    simp
theorem mul_mkS (l : List Nat) (k : Int) : PySem.Txt.mul (mkS l) k = mkS (List.replicate k.toNat l).flatten := by
  unfold PySem.Txt.mul
  by_cases h1 : k < 1
  · rw [if_pos h1]
    have : k.toNat = 0 := by omega
    rw [this]; rfl
  · rw [if_neg h1]
    by_cases h2 : (k == 1 || (mkS l).length == 0) = true
    · rw [if_pos h2]
      simp only [Bool.or_eq_true, beq_iff_eq] at h2
      rcases h2 with h2 | h2
      · subst h2; simp
      · rw [mkS_length] at h2
        have : l = [] := List.eq_nil_of_length_eq_zero h2
        subst this
        simp
    · rw [if_neg h2]
      show (⟨_⟩ : Str) = ⟨_⟩
      congr 1
      rw [foldl_app]
      simp
section
variable {X : Cx} {K : PySem.W.Frag}
def rMulS : R2 := fun x y H Q => ∃ l k, x = .str l ∧ y = .int k ∧ PySem.MulOk l k ∧ Q (.str (PySem.Txt.mul l k)) H
theorem op_mulS : OpR X (binaryOp .Mult) rMulS := by
  intro pins s σ H x y v u Q I rx ry ⟨l, k, e1, e2, ok, q⟩
  subst e1 e2
  obtain ⟨t, rfl⟩ := rx
  obtain ⟨t', rfl⟩ := ry
  exact PySem.SB.mul ok fun t' k => ⟨.str _, H, I.tok k, ⟨_, rfl⟩, q⟩
abbrev rMulG : R2 := fun x y H Q => rI MulOk (fun i j => .int (i * j)) x y H Q ∨ rRep x y H Q ∨ rMulS x y H Q
theorem op_mulG : OpR X (binaryOp .Mult) rMulG := op_mulA.or (op_rep.or op_mulS)
theorem k_mulG : Op2Ok K rMulG wMulG := by
  intro O G F σ H E x y dx dy Q Q' r hx hy q k
  unfold wMulG at q
  split at q
  · rename_i i j
    have e := hx.int
    have e' := hy.int
    subst e e'
    exact .inl ⟨i, j, rfl, rfl, q.1, k _ _ (.dat r (.int _) q.2)⟩
  · rename_i l j
    have e' := hy.int
    subst e'
    obtain ⟨a, vs, rfl, h1, p⟩ := hx.lst r.f
    exact .inr (.inl ⟨a, j, vs, rfl, rfl, h1, q.1.1, q.1.2.1, by rw [p.length, line_eq]; exact q.1.2.2, fun c hc => k _ _ (.lst r hc (p.rep _) q.2)⟩)
  · rename_i l j
    have e' := hy.int
    subst e'
    have e := hx.str
    subst e
    refine .inr (.inr ⟨_, j, rfl, rfl, ?_, by rw [mul_mkS]; exact k _ _ (.dat r (.str _) q.2)⟩)
    obtain ⟨⟨h1, h2, h3⟩, _⟩ := q
    have hl := line_eq
    refine ⟨by simp; omega, fun h _ => ?_, fun h _ => ?_⟩
    · rw [mkS_length]
      have : (16 : Int) ≤ (2 ^ 63 - 1) / j := by
        rw [Int.le_ediv_iff_mul_le (by omega)]
        omega
      omega
    · show decide _ = false
      rw [mkS_length, decide_eq_false_iff_not, hl]
      have : l.length * j.toNat ≤ 16 * 1000000 := Nat.mul_le_mul h3 (by omega)
      omega
  · exact q.elim
end

/-! ### <, <=, >, >= of data alike -/
def cmpOk (x y : D) : Prop := okD x = true ∧ okD y = true ∧ PySem.W.alike x.py y.py = true ∧ isNon x = false
def ltD (x y : D) : Bool := PySem.W.dataLt x.py y.py
def wLt : D → D → (B → Prop) → Prop
  | .int i, .int j, Q => Q (.dat (.bl (decide (i < j))))
  | x, y, Q => cmpOk x y ∧ Q (.dat (.bl (ltD x y)))
def wGt : D → D → (B → Prop) → Prop
  | .int i, .int j, Q => Q (.dat (.bl (decide (j < i))))
  | x, y, Q => cmpOk x y ∧ Q (.dat (.bl (ltD y x)))
def wLe : D → D → (B → Prop) → Prop
  | .int i, .int j, Q => Q (.dat (.bl (decide (i ≤ j))))
  | x, y, Q => cmpOk x y ∧ Q (.dat (.bl (!ltD y x)))
def wGe : D → D → (B → Prop) → Prop
  | .int i, .int j, Q => Q (.dat (.bl (decide (j ≤ i))))
  | x, y, Q => cmpOk x y ∧ Q (.dat (.bl (!ltD x y)))
section
variable {X : Cx} {K : PySem.W.Frag}
def rCmpD (K : PySem.W.Frag) (f : PyData → PyData → Bool) : R2 := fun x y H Q => ∃ d e, Dp K H x d ∧ Dp K H y e ∧ SeqAt.shaped d = true ∧ PySem.W.alike d e = true ∧ d ≠ .none ∧ Q (.bl (f d e)) H
abbrev rCmpG (K : PySem.W.Frag) (p : Int → Int → Bool) (f : PyData → PyData → Bool) : R2 := fun x y H Q => rI0 (fun i j => .bl (p i j)) x y H Q ∨ rCmpD K f x y H Q
theorem op_ltG (hu : X.A.units + 64 < cLine) : OpR X (compareOp .Lt) (rCmpG X.K (fun i j => decide (i < j)) PySem.W.dataLt) := op_lt.or (by
  intro pins s σ H x y v u Q I rx ry ⟨d, e, hd, he, sd, al, nn, q⟩
  obtain ⟨as, r1⟩ := Dp.reads I d x v hd rx
  obtain ⟨bs, r2⟩ := Dp.reads I e y u he ry
  exact PySem.W.lt_data r1 r2 al nn (SeqAt.room_of_shaped sd hu) ⟨.bl _, H, I, rfl, q⟩)
theorem op_gtG (hu : X.A.units + 64 < cLine) : OpR X (compareOp .Gt) (rCmpG X.K (fun i j => decide (j < i)) fun d e => PySem.W.dataLt e d) := op_gt.or (by
  intro pins s σ H x y v u Q I rx ry ⟨d, e, hd, he, sd, al, nn, q⟩
  obtain ⟨as, r1⟩ := Dp.reads I d x v hd rx
  obtain ⟨bs, r2⟩ := Dp.reads I e y u he ry
  exact PySem.W.gt_data r1 r2 al nn (SeqAt.room_of_shaped sd hu) ⟨.bl _, H, I, rfl, q⟩)
theorem op_leG (hu : X.A.units + 64 < cLine) : OpR X (compareOp .LtE) (rCmpG X.K (fun i j => decide (i ≤ j)) fun d e => !PySem.W.dataLt e d) := op_le.or (by
  intro pins s σ H x y v u Q I rx ry ⟨d, e, hd, he, sd, al, nn, q⟩
  obtain ⟨as, r1⟩ := Dp.reads I d x v hd rx
  obtain ⟨bs, r2⟩ := Dp.reads I e y u he ry
  exact PySem.W.le_data r1 r2 al nn (SeqAt.room_of_shaped sd hu) ⟨.bl _, H, I, rfl, q⟩)
theorem op_geG (hu : X.A.units + 64 < cLine) : OpR X (compareOp .GtE) (rCmpG X.K (fun i j => decide (j ≤ i)) fun d e => !PySem.W.dataLt d e) := op_ge.or (by
  intro pins s σ H x y v u Q I rx ry ⟨d, e, hd, he, sd, al, nn, q⟩
  obtain ⟨as, r1⟩ := Dp.reads I d x v hd rx
  obtain ⟨bs, r2⟩ := Dp.reads I e y u he ry
  exact PySem.W.ge_data r1 r2 al nn (SeqAt.room_of_shaped sd hu) ⟨.bl _, H, I, rfl, q⟩)
theorem isNon_py {d : D} (h : isNon d = false) : d.py ≠ .none := by
  cases d <;> first | (exact absurd h (by decide)) | simp [D.py]
theorem cmpG_core {p : Int → Int → Bool} {f : PyData → PyData → Bool} {w : D → D → (B → Prop) → Prop} (hi : ∀ i j Q, w (.int i) (.int j) Q → Q (.dat (.bl (p i j))))
    (hg : ∀ x y Q, (∀ i j, x = .int i → y = .int j → False) → w x y Q → cmpOk x y ∧ Q (.dat (.bl (f x.py y.py)))) : Op2Ok K (rCmpG K p f) w := by
  intro O G F σ H E x y dx dy Q Q' r hx hy q k
  by_cases h : ∃ i j, dx = .int i ∧ dy = .int j
  · obtain ⟨i, j, e1, e2⟩ := h
    subst e1 e2
    exact .inl ⟨i, j, hx.int, hy.int, k _ _ (.dat r (.bl _) (hi _ _ _ q))⟩
  · obtain ⟨⟨o1, o2, al, nn⟩, q⟩ := hg _ _ _ (fun i j e1 e2 => h ⟨i, j, e1, e2⟩) q
    exact .inr ⟨_, _, hx.dp r.f o1, hy.dp r.f o2, o1, al, isNon_py nn, k _ _ (.dat r (.bl _) q)⟩
theorem k_lt : Op2Ok K (rCmpG K (fun i j => decide (i < j)) PySem.W.dataLt) wLt := cmpG_core (fun _ _ _ q => q) fun x y Q n q => by
  unfold wLt at q; split at q
  · exact (n _ _ rfl rfl).elim
  · exact q
theorem k_gt : Op2Ok K (rCmpG K (fun i j => decide (j < i)) fun d e => PySem.W.dataLt e d) wGt := cmpG_core (fun _ _ _ q => q) fun x y Q n q => by
  unfold wGt at q; split at q
  · exact (n _ _ rfl rfl).elim
  · exact q
theorem k_le : Op2Ok K (rCmpG K (fun i j => decide (i ≤ j)) fun d e => !PySem.W.dataLt e d) wLe := cmpG_core (fun _ _ _ q => q) fun x y Q n q => by
  unfold wLe at q; split at q
  · exact (n _ _ rfl rfl).elim
  · exact q
theorem k_ge : Op2Ok K (rCmpG K (fun i j => decide (j ≤ i)) fun d e => !PySem.W.dataLt d e) wGe := cmpG_core (fun _ _ _ q => q) fun x y Q n q => by
  unfold wGe at q; split at q
  · exact (n _ _ rfl rfl).elim
  · exact q
end

/-! ### sorted(a list) -/
def leD (x y : D) : Bool := PySem.W.dataLe false D.py x y
def sortOk (l : List D) : Prop := (∀ d ∈ l, okD d = true) ∧ PySem.W.AllAlike (l.map D.py) ∧ PySem.W.Sortable (l.map D.py)
def wSorted : D → (B → Prop) → Prop
  | .lst l, Q => sortOk l ∧ Q (.own (.lst (l.mergeSort leD)))
  | _, _ => False
section
variable {X : Cx} {K : PySem.W.Frag}
abbrev leVD (a b : V × D) : Bool := PySem.W.dataLe false (fun p : V × D => p.2.py) a b
def rSortD (K : PySem.W.Frag) : List V → Hp → VK → Prop := fun vs H Q => ∃ (a : Addr) (bs : List (V × D)), vs = [V.ref a] ∧ SqL K H a (bs.map (·.1)) ∧ (∀ b ∈ bs, Dp K H b.1 b.2.py ∧ okD b.2 = true) ∧ PySem.W.AllAlike (bs.map (·.2.py)) ∧ PySem.W.Sortable (bs.map (·.2.py)) ∧
  ∀ p, H p = none → Q (.ref p) (upd H p (.lst ((bs.mergeSort leVD).map (·.1))))
theorem eachIs_of {R : Value → V × D → Prop} : ∀ {bs : List (V × D)} {us : List Value}, Vals (bs.map (·.1)) us → (∀ b ∈ bs, ∀ u, RelV b.1 u → R u b) → PySem.W.EachIs R us bs
  | [], _, .nil, _ => .nil
  | b :: bs, _, .cons r t, h => .cons (h b List.mem_cons_self _ r) (eachIs_of t fun b' hb => h b' (List.mem_cons_of_mem _ hb))
theorem of_eachIs : ∀ {us : List Value} {bs : List (V × D)}, PySem.W.EachIs (fun u b => RelV b.1 u) us bs → Vals (bs.map (·.1)) us
  | _, _, .nil => .nil
  | _, _, .cons r t => .cons r (of_eachIs t)
theorem cr_sortD (hu : X.A.units + 70 < cLine) : CallR X (.builtin "sorted") (rSortD X.K) := by
  intro pins s σ H vs us Q I r ⟨a, bs, e, hs, hb, al, so, q⟩
  subst e
  obtain ⟨its, rv, hl, hsz⟩ := I.list hs
  rw [Vals.ref1 r]
  refine PySem.W.sorted_data (enc := fun p : V × D => p.2.py) (R := fun u b => RelV b.1 u) (vs := its) (bs := bs) hl.isList (eachIs_of rv fun b _ u h => h) (eachIs_of rv fun b h u ru => Dp.reads I _ _ _ (hb b h).1 ru) al so ?_ ?_ ?_
  · have := rv.length
    rw [List.length_map] at this
    first | omega | (simp at hsz; omega)
  · intro b h
    have := SeqAt.depth_of_shaped (hb b h).2
    show X.A.units + 2 + b.2.py.depth < cLine
    omega
  · intro out ho eo
    obtain ⟨ep, he'⟩ := PyProof.Rows.sortedAll_at s.heap its out.toArray
    have hz := rv.length
    have hlen : ((bs.mergeSort leVD).map (·.1)).length ≤ sizeLine := by
      rw [List.length_map, List.length_mergeSort]
      rw [List.length_map] at hz
      first | omega | (simp at hsz; omega)
    exact ⟨.ref _, upd H (s.heap.objs.size + 1) (.lst ((bs.mergeSort leVD).map (·.1))), I.laid (t' := s.toks) (fun _ _ => PyProof.Rows.sortedAll_old) (Nat.le_succ _) ⟨hlen, out, ep, of_eachIs eo, he'⟩, rfl, q _ (I.hok.fresh (Nat.le_succ _))⟩
theorem RepL.pairs {F : Hp} : ∀ {vs : List V} {ds : List D}, RepL K F vs ds → ∃ bs : List (V × D), vs = bs.map (·.1) ∧ ds = bs.map (·.2) ∧ ∀ b ∈ bs, Rep K F b.1 b.2
  | _, _, .nil => ⟨[], rfl, rfl, fun _ h => by cases h⟩
  | _, _, .cons h r => by
    obtain ⟨bs, e1, e2, h2⟩ := RepL.pairs r
    exact ⟨(_, _) :: bs, by rw [e1]; rfl, by rw [e2]; rfl, fun b hb => by
      rcases List.mem_cons.mp hb with e | hb
      · subst e; exact h
      · exact h2 b hb⟩
theorem RepL.ofPairs {F : Hp} : ∀ {bs : List (V × D)}, (∀ b ∈ bs, Rep K F b.1 b.2) → RepL K F (bs.map (·.1)) (bs.map (·.2))
  | [], _ => .nil
  | b :: bs, h => .cons (h b List.mem_cons_self) (RepL.ofPairs fun b' hb => h b' (List.mem_cons_of_mem _ hb))
theorem k_sorted : Op1Ok K (fun x H Q => rSortD K [x] H Q) wSorted := by
  intro O G F σ H E x dx Q Q' r hx q k
  cases dx with
  | lst l =>
    obtain ⟨⟨o1, al, so⟩, q⟩ := q
    obtain ⟨a, vs, rfl, h1, p⟩ := hx.lst r.f
    obtain ⟨bs, e1, e2, h2⟩ := p.pairs
    subst e1 e2
    refine ⟨a, bs, rfl, SqL.of h1, fun b hb => ⟨?_, o1 _ (List.mem_map_of_mem hb)⟩, by rw [List.map_map] at al; exact al, by rw [List.map_map] at so; exact so, fun c hc => k _ _ (.lst r hc (ds := (bs.mergeSort leVD).map (·.2)) (RepL.ofPairs fun b hb => h2 b (List.mem_mergeSort.mp hb)) ?_)⟩
    · exact Rep.dp (SeqAt.canLay_of_shaped (o1 _ (List.mem_map_of_mem hb))) ((h2 b hb).mono r.f)
    · have e : (bs.mergeSort leVD).map (·.2) = (bs.map (·.2)).mergeSort leD := List.map_mergeSort fun a _ b _ => rfl
      rw [e]; exact q
  | _ => exact (show False from q).elim
end
end PW

set_option Elab.async false
set_option linter.all false
set_option autoImplicit false
set_option maxRecDepth 100000
set_option maxHeartbeats 4000000
namespace PW
open PySem PySem.Spec PyProof.Rows L2

/-! ### the defs of a text, by name -/
structure Df (K : PySem.W.Frag) (mg : Str → Option Value) (x : Str) (st : Stmt) (ps : List Str) : Prop where
  ex : ∃ (f : Addr) (fd : FuncData), Fun K x x st f fd ∧ mg x = some (.ref f) ∧ Binds K fd ps []
structure CFn (P : Program) (w : World) (K : PySem.W.Frag) (mg : Str → Option Value) (base : Heap) (k : Nat) (x : Str) (sp : Sp) : Prop where
  ex : ∃ (f : Addr) (fd : FuncData) (ps : List Str), FnOk P w K mg base CX0 k f fd ps sp ∧ mg x = some (.ref f) ∧ PySem.W.keepIn K (.ref f) = true ∧ Binds K fd ps []
abbrev CF (P : Program) (w : World) (K : PySem.W.Frag) (mg : Str → Option Value) (base : Heap) (k : Nat) (x : Str) (fs : FS) : Prop := CFn P w K mg base k x (spF K fs)
abbrev CP (P : Program) (w : World) (K : PySem.W.Frag) (mg : Str → Option Value) (base : Heap) (k : Nat) (x : Str) (fs : PFS) : Prop := CFn P w K mg base k x (spP K fs)
section
variable {P : Program} {w : World} {K : PySem.W.Frag} {mg : Str → Option Value} {base : Heap} {x : Str} {st : Stmt} {ps : List Str} {k : Nat} {sp : Sp}
theorem Df.mk' {f : Addr} {fd : FuncData} (F : Fun K x x st f fd) (m : mg x = some (.ref f)) (b : Binds K fd ps []) : Df K mg x st ps := ⟨f, fd, F, m, b⟩
theorem cf_of (d : Df K mg x st ps) (h : ∀ f fd, Fun K x x st f fd → FnOk P w K mg base CX0 k f fd ps sp) : CFn P w K mg base k x sp := by
  obtain ⟨f, fd, F, m, b⟩ := d
  exact ⟨f, fd, ps, h f fd F, m, F.kp, b⟩
theorem CFn.mono {j : Nat} (c : CFn P w K mg base j x sp) (h : j ≤ k) : CFn P w K mg base k x sp := by
  obtain ⟨f, fd, ps, F, r⟩ := c
  exact ⟨f, fd, ps, F.mono h, r⟩
theorem spF_imp {fs fs' : FS} (h : ∀ ds Pp, fs' ds Pp → fs ds Pp) : ∀ vs H Q E, spF K fs' vs H Q E → spF K fs vs H Q E := fun vs H Q E ⟨G, ds, Pp, a, b, c, d⟩ => ⟨G, ds, Pp, a, b, h _ _ c, d⟩
theorem spP_imp {fs fs' : PFS} (h : ∀ d ds Pp, fs' d ds Pp → fs d ds Pp) : ∀ vs H Q E, spP K fs' vs H Q E → spP K fs vs H Q E := fun vs H Q E ⟨G, p, d, ws, ds, Pp, e, a, b, c, r, z, y⟩ => ⟨G, p, d, ws, ds, Pp, e, a, b, c, r, h _ _ _ z, y⟩
theorem CFn.imp {sp' : Sp} (c : CFn P w K mg base k x sp) (h : ∀ vs H Q E, sp' vs H Q E → sp vs H Q E) : CFn P w K mg base k x sp' := by
  obtain ⟨f, fd, ps, F, r⟩ := c
  exact ⟨f, fd, ps, F.imp h, r⟩
/-- no promise at all: where a recursion's depth has run out -/
theorem cf_none (d : Df K mg x st ps) (h : ∀ vs H Q E, sp vs H Q E → False) : CFn P w K mg base k x sp := cf_of d fun f fd F => ⟨fun vs H Q E q => (h _ _ _ _ q).elim, fun A outer s H args us vs Q E _ _ _ _ q => (h _ _ _ _ q).elim⟩
theorem spF_none {fs : FS} (h : ∀ ds Pp, fs ds Pp → False) : ∀ vs H Q E, spF K fs vs H Q E → False := fun vs H Q E ⟨G, ds, Pp, a, b, c, d⟩ => h _ _ c
end
section
variable {X : Cx} {k : Nat} {x : Str} {p pos : Pos} {e : Expr} {es : List Expr}
theorem ed_f {fs : FS} {a : WA} (c : CF X.prog X.w X.K X.mg X.base k x fs) (hr : Room k X.A) (hg : Gl X x)
    (ha : AD X (e :: es) a) (hdb : (x == ("__debug__" : Str)) = false := by decide) (he : starEach (e :: es) X.env = (false, eval e X.env) :: starEach es X.env := by rfl) (hpl : (backTo pos (starEach es X.env)).any (·.1) = false := by rfl) :
    ED X (.Call (.Name x p) (e :: es) [] pos) (wCall fs a) := by
  obtain ⟨f, fd, ps, F, m, k, b⟩ := c
  exact ed_call F hr hg m k b ha hdb he hpl
theorem ed_f0 {fs : FS} (c : CF X.prog X.w X.K X.mg X.base k x fs) (hr : Room k X.A) (hg : Gl X x) (hdb : (x == ("__debug__" : Str)) = false := by decide) :
    ED X (.Call (.Name x p) [] [] pos) (wCall fs aN) := by
  obtain ⟨f, fd, ps, F, m, k, b⟩ := c
  exact ed_call0 F hr hg m k b hdb
theorem ed_p {i : Nat} {y : Str} {py : Pos} {fs : PFS} {a : WA} (c : CP X.prog X.w X.K X.mg X.base k x fs) (hr : Room k X.A) (hg : Gl X x)
    (hv : PE X (.Name y py) (tVar i)) (ha : AD X es a) (hdb : (x == ("__debug__" : Str)) = false := by decide) (he : starEach (.Name y py :: es) X.env = (false, eval (.Name y py) X.env) :: starEach es X.env := by rfl) (hpl : (backTo pos (starEach es X.env)).any (·.1) = false := by rfl) :
    ED X (.Call (.Name x p) (.Name y py :: es) [] pos) (wCallP i fs a) := by
  obtain ⟨f, fd, ps, F, m, k, b⟩ := c
  exact ed_callP F hr hg m k b hv ha hdb he hpl
end
/-! ### the law's own promise -/
def fLaw (n : Nat) : D → (B → Prop) → Prop := fun a P => ∃ ns : List Int, a = .scr ns ∧ ns.length ≤ n ∧ P (.dat (.bl true))
def spLaw (K : PySem.W.Frag) : Sp := fun vs H Q _ => ∃ (a : Addr) (ns : List Int), vs = [.ref a] ∧ SqL K H a (ns.map V.int) ∧ ns.length ≤ 63 ∧ ∀ H', Q (.bl true) H'
theorem spLaw_of {K : PySem.W.Frag} : ∀ vs H Q E, spLaw K vs H Q E → spF K (fs1 (fLaw 63)) vs H Q E := fun vs H Q E ⟨a, ns, e, hs, hl, q⟩ => by
  subst e
  refine ⟨H, [.scr ns], fun b => b = .dat (.bl true), Sub.refl H, .cons (.scr hs) .nil, ⟨_, rfl, ns, rfl, hl, rfl⟩, fun b v F' H' e _ _ _ r => ?_⟩
  subst e
  have r : Rep K F' v (.bl true) := r
  cases r
  exact q H'

/-! ### methods that change nothing -/
def tyO (T : String) : Option D → Prop
  | some (.str _) => T = "str"
  | some (.lst _) => T = "list"
  | some (.scr _) => T = "list"
  | _ => False
def wMt1 (T : String) (wr : D → D → (B → Prop) → Prop) (wo wa : WO) : WE := fun E Q => wo E fun o E1 => tyO T (o.get E1) ∧ wa E1 fun a E2 => match o.get E2, a.get E2 with
  | some x, some y => wr x y fun b => Q b E2
  | _, _ => False
def wMt0 (T : String) (wr : D → (B → Prop) → Prop) (wo : WO) : WE := fun E Q => wo E fun o E1 => tyO T (o.get E1) ∧ match o.get E1 with
  | some x => wr x fun b => Q b E1
  | _ => False
theorem tyV_of {K : PySem.W.Frag} {F H : Hp} {v : V} {d : D} {T : String} (h : Rdb K F H v d) (s : Sub F H) (t : tyO T (some d)) : tyV K T v H := by
  cases d with
  | str l => rw [h.str]; exact t
  | lst l =>
    obtain ⟨a, vs, rfl, h1, p⟩ := h.lst s
    exact .inl ⟨t, vs, SqL.of h1⟩
  | scr l =>
    obtain ⟨a, rfl, h1⟩ := h.scr s
    exact .inl ⟨t, _, h1⟩
  | _ => exact t.elim
section
variable {K : PySem.W.Frag}
theorem tyO_some {T : String} {o : Option D} (h : tyO T o) : ∃ d, o = some d := by
  cases o with
  | none => exact h.elim
  | some d => exact ⟨d, rfl⟩
theorem ok_mt1 {T : String} {r : V → List V → Hp → VK → Prop} {wr : D → D → (B → Prop) → Prop} {wo wa : WO} (hk : Op2Ok K (fun x y H Q => r x [y] H Q) wr) : EOk K (tBM K T r (tO K wo) (tCons (tO K wa) tNil)) (wMt1 T wr wo wa) := fun O G F σ H E Q r0 q => by
  refine tO_bind r0 q fun x H1 F1 E1 o s1 r1 p1 ⟨ty, q1⟩ => ?_
  obtain ⟨d, ed⟩ := tyO_some ty
  refine ⟨tyV_of (r1.rdb p1 ed) r1.f (by rw [ed] at ty; exact ty), ?_⟩
  refine tO_bind r1 q1 fun y H2 F2 E2 oa s2 r2 p2 q2 => ?_
  split at q2
  · rename_i dx dy ex ey
    refine hk O G F2 σ H2 E2 x y dx dy _ _ r2 (r2.rdb (p1.mono s2) ex) (r2.rdb p2 ey) q2 ?_
    intro v H' ⟨F', b, s3, r3, p3, q3⟩
    exact ⟨F', E2, b, (s1.trans s2).trans s3, r3, p3, q3⟩
  · exact q2.elim
theorem ok_mt0 {T : String} {r : V → List V → Hp → VK → Prop} {wr : D → (B → Prop) → Prop} {wo : WO} (hk : Op1Ok K (fun x H Q => r x [] H Q) wr) : EOk K (tBM0 K T r (tO K wo)) (wMt0 T wr wo) := fun O G F σ H E Q r0 q => by
  refine tO_bind r0 q fun x H1 F1 E1 o s1 r1 p1 ⟨ty, q1⟩ => ?_
  obtain ⟨d, ed⟩ := tyO_some ty
  refine ⟨tyV_of (r1.rdb p1 ed) r1.f (by rw [ed] at ty; exact ty), ?_⟩
  rw [ed] at q1
  refine hk O G F1 σ H1 E1 x d _ _ r1 (r1.rdb p1 ed) q1 ?_
  intro v H' ⟨F', b, s3, r3, p3, q3⟩
  exact ⟨F', E1, b, s1.trans s3, r3, p3, q3⟩
end
section
variable {X : Cx} {o e : Expr} {name : Str} {apos cpos : Pos} {T id : String}
theorem ed_mt1 {r : V → List V → Hp → VK → Prop} {wr : D → D → (B → Prop) → Prop} {wo wa : WO} (pa : PlainAttrs T) (slot : Slot T name id) (hty : typeOf (.builtin id) = pure (.type "method_descriptor")) (hm : MtR X id r) (hk : Op2Ok X.K (fun x y H Q => r x [y] H Q) wr) (ho : OD X o wo) (ha : OD X e wa)
    (hbase : attributeBase o name X.env (eval o X.env) = eval o X.env := by rfl)
    (hfew : ((backTo cpos (starEach [e] X.env)).all (fun x => !x.1) && (backToKw cpos (keywordEach [] X.env)).all (fun x => x.1.isSome)
      && decide ([e].length + ([] : List Keyword).length + (if ([] : List Keyword).isEmpty then 0 else 1) < 30)) = true := by rfl)
    (hline : (apos.endLine == cpos.line) = true := by rfl) (hs : starEach [e] X.env = (false, eval e X.env) :: starEach [] X.env := by rfl) : ED X (.Call (.Attribute o name apos) [e] [] cpos) (wMt1 T wr wo wa) :=
  ed_of (pe_bm pa slot hty hm ho (pa_cons ha pa_nil hs) hbase hfew hline hs) (ok_mt1 hk)
theorem ed_mt0 {r : V → List V → Hp → VK → Prop} {wr : D → (B → Prop) → Prop} {wo : WO} (pa : PlainAttrs T) (slot : Slot T name id) (hty : typeOf (.builtin id) = pure (.type "method_descriptor")) (hm : MtR X id r) (hk : Op1Ok X.K (fun x H Q => r x [] H Q) wr) (ho : OD X o wo)
    (hbase : attributeBase o name X.env (eval o X.env) = eval o X.env := by rfl) (hline : (apos.endLine == cpos.line) = true := by rfl) : ED X (.Call (.Attribute o name apos) [] [] cpos) (wMt0 T wr wo) :=
  ed_of (pe_bm0 pa slot hty hm ho hbase hline) (ok_mt0 hk)
end

/-! ### l.index(x) -/
def idxOf (l : List D) (x : D) : Option Nat := l.findIdx? fun z => eqD z x
def wIndexL (x y : D) (Q : B → Prop) : Prop := match x with
  | .lst l => okD (.lst l) = true ∧ okD y = true ∧ ∃ j, idxOf l y = some j ∧ Q (.dat (.int (j : Nat)))
  | _ => False
section
variable {K : PySem.W.Frag}
theorem pys_get : ∀ {l : List D} {i : Nat}, (D.pys l)[i]? = (l[i]?).map D.py := fun {l i} => by rw [D.pys_map, List.getElem?_map]
theorem k_indexL : Op2Ok K (fun x y H Q => rIndexD K x [y] H Q) wIndexL := by
  intro O G F σ H E x y dx dy Q Q' r hx hy q k
  cases dx with
  | lst l =>
    obtain ⟨o1, o2, j, hj, q⟩ := q
    have hd := hx.dp r.f o1
    obtain ⟨a, vs, rfl, h1, p⟩ := hx.lst r.f
    unfold idxOf at hj
    rw [List.findIdx?_eq_some_iff_getElem] at hj
    obtain ⟨hlt, hz, hno⟩ := hj
    simp only [D.py] at hd o1
    refine ⟨a, y, dy.py, D.pys l, j, (l[j]).py, rfl, rfl, hd, hy.dp r.f o2, o1, o2, by rw [pys_get, List.getElem?_eq_getElem hlt]; rfl, hz, fun m z hm hz' => ?_, k _ _ (.dat r (.int _) q)⟩
    rw [pys_get] at hz'
    have hml : m < l.length := by omega
    rw [List.getElem?_eq_getElem hml] at hz'
    cases hz'
    have := hno m hm
    simpa [eqD] using this
  | _ => exact (show False from q).elim
end
/-! ### sep.join(l) -/
def joinD (a : List Nat) (ss : List (List Nat)) : List Nat := (ss.intersperse a).flatten
def wJoin (x y : D) (Q : B → Prop) : Prop := match x with
  | .str a => ∃ ss : List (List Nat), (y = .lst (ss.map .str) ∨ y = .tup (ss.map .str)) ∧ (ss.map (·.length)).sum + ss.length * a.length ≤ 16777216 ∧ Q (.dat (.str (joinD a ss)))
  | _ => False
def wStarts (x y : D) (Q : B → Prop) : Prop := match x, y with
  | .str a, .str b => Q (.dat (.bl (b.isPrefixOf a)))
  | _, _ => False
def wEnds (x y : D) (Q : B → Prop) : Prop := match x, y with
  | .str a, .str b => Q (.dat (.bl (b.isSuffixOf a)))
  | _, _ => False
end PW

set_option Elab.async false
set_option linter.all false
set_option autoImplicit false
set_option maxRecDepth 100000
set_option maxHeartbeats 4000000
namespace PW
open PySem PySem.Spec PyProof.Rows L2

/-! ### one step of the plain reading each; the goal's head says which -/
/-- the slot i of a written-out state -/
inductive AtR : En → Nat → B → Prop
  | z {b : B} {l : En} : AtR (some b :: l) 0 b
  | s {l : En} {i : Nat} {b : B} {x : Option B} : AtR l i b → AtR (x :: l) (i + 1) b
inductive SetR : En → Nat → Option B → En → Prop
  | z {x y : Option B} {l : En} : SetR (x :: l) 0 y (y :: l)
  | s {l l' : En} {i : Nat} {x y : Option B} : SetR l i y l' → SetR (x :: l) (i + 1) y (x :: l')
theorem AtR.eq : ∀ {E : En} {i : Nat} {b : B}, AtR E i b → E[i]? = some (some b)
  | _, _, _, .z => rfl
  | _, _, _, .s h => by rw [List.getElem?_cons_succ]; exact h.eq
theorem SetR.eq : ∀ {E E' : En} {i : Nat} {y : Option B}, SetR E i y E' → E.set i y = E'
  | _, _, _, _, .z => rfl
  | _, _, _, _, .s h => by rw [List.set_cons_succ, h.eq]
/-- what an operand is -/
inductive GetR : En → Opn → D → Prop
  | v {E : En} {d : D} : GetR E (.val d) d
  | o {E : En} {i : Nat} {d : D} : AtR E i (.own d) → GetR E (.slot i) d
  | p {E : En} {i : Nat} {a : Addr} {d : D} : AtR E i (.par a d) → GetR E (.slot i) d
  | d {E : En} {i : Nat} {d : D} : AtR E i (.dat d) → GetR E (.slot i) d
theorem GetR.eq {E : En} {o : Opn} {d : D} (h : GetR E o d) : o.get E = some d := by
  cases h with
  | v => rfl
  | o h => simp only [Opn.get, h.eq]; rfl
  | p h => simp only [Opn.get, h.eq]; rfl
  | d h => simp only [Opn.get, h.eq]; rfl
/-- hidden continuations -/
def setK (i : Nat) (b : B) (E : En) (nx : En → Prop) : Prop := nx (E.set i (some b))
def opK (wr : D → D → (B → Prop) → Prop) (oa ob : Opn) (E : En) (Q : B → En → Prop) : Prop := match oa.get E, ob.get E with
  | some x, some y => wr x y fun b => Q b E
  | _, _ => False
def unK (wr : D → (B → Prop) → Prop) (oa : Opn) (E : En) (Q : B → En → Prop) : Prop := match oa.get E with
  | some x => wr x fun b => Q b E
  | _ => False
def tstK (b : B) (E : En) (Q : Bool → En → Prop) : Prop := match b with
  | .dat (.bl k) => Q k E
  | _ => False
def valK (b : B) (E : En) (Q : Opn → En → Prop) : Prop := Q (.val b.d) E
def acK (b : B) (r : WA) (E : En) (Q : List D → En → Prop) : Prop := r E fun ds E2 => Q (b.d :: ds) E2
section
variable {E E' : En} {nx bk ct : En → Prop} {rt : B → En → Prop} {a b c : WS} {w wa wb we : WE} {i j : Nat} {Q : B → En → Prop} {QO : Opn → En → Prop} {QT : Bool → En → Prop} {QA : List D → En → Prop} {t u : WT}
  {oa ob : WO} {o o2 : Opn} {x y : D} {bb : B} {P : B → Prop} {A C : Prop} {r : WA} {wr : D → D → (B → Prop) → Prop} {w1 : D → (B → Prop) → Prop}
-- statements
theorem x_seq (h : a ⟨b ⟨nx, rt, bk, ct⟩, rt, bk, ct⟩ E) : sSeq a b ⟨nx, rt, bk, ct⟩ E := h
theorem x_next (h : nx E) : sNext ⟨nx, rt, bk, ct⟩ E := h
theorem x_break (h : bk E) : sBreak ⟨nx, rt, bk, ct⟩ E := h
theorem x_cont (h : ct E) : sCont ⟨nx, rt, bk, ct⟩ E := h
theorem x_ret (h : w E rt) : sRet w ⟨nx, rt, bk, ct⟩ E := h
theorem x_retN (h : rt (.dat .non) E) : sRetN ⟨nx, rt, bk, ct⟩ E := h
theorem x_expr (h : w E fun _ E1 => nx E1) : sExpr w ⟨nx, rt, bk, ct⟩ E := h
theorem x_set (h : w E fun bb E1 => setK i bb E1 nx) : sSet i w ⟨nx, rt, bk, ct⟩ E := h
theorem x_setK (s : SetR E i (some bb) E') (h : nx E') : setK i bb E nx := by unfold setK; rw [s.eq]; exact h
theorem x_if (h : t E fun k E1 => if k = true then a ⟨nx, rt, bk, ct⟩ E1 else b ⟨nx, rt, bk, ct⟩ E1) : sIf t a b ⟨nx, rt, bk, ct⟩ E := h
def parK (i j : Nat) (ds : List D) (E : En) (nx : En → Prop) : Prop := match ds with
  | [x, y] => nx ((E.set i (some (.dat x))).set j (some (.dat y)))
  | _ => False
theorem x_par (h : r E fun ds E1 => parK i j ds E1 nx) : sPar i j r ⟨nx, rt, bk, ct⟩ E := h
theorem x_parK {E'' : En} (s : SetR E i (some (.dat x)) E') (s2 : SetR E' j (some (.dat y)) E'') (h : nx E'') : parK i j [x, y] E nx := by
  show nx ((E.set i (some (.dat x))).set j (some (.dat y))); rw [s.eq, s2.eq]; exact h
def par3K (i j l : Nat) (ds : List D) (E : En) (nx : En → Prop) : Prop := match ds with
  | [x, y, z] => nx (((E.set i (some (.dat x))).set j (some (.dat y))).set l (some (.dat z)))
  | _ => False
theorem x_par3 {l : Nat} (h : r E fun ds E1 => par3K i j l ds E1 nx) : sPar3 i j l r ⟨nx, rt, bk, ct⟩ E := h
theorem x_par3K {l : Nat} {z : D} {E'' E3 : En} (s : SetR E i (some (.dat x)) E') (s2 : SetR E' j (some (.dat y)) E'') (s3 : SetR E'' l (some (.dat z)) E3) (h : nx E3) : par3K i j l [x, y, z] E nx := by
  show nx (((E.set i (some (.dat x))).set j (some (.dat y))).set l (some (.dat z))); rw [s.eq, s2.eq, s3.eq]; exact h
def asgK (g : WG) (b : B) (E : En) (nx : En → Prop) : Prop := g b.d E nx
theorem x_asg {g : WG} (h : w E fun b E1 => asgK g b E1 nx) : sAsg w g ⟨nx, rt, bk, ct⟩ E := h
theorem x_asgKd {g : WG} (h : g x E nx) : asgK g (.dat x) E nx := h
theorem x_asgKo {g : WG} (h : g x E nx) : asgK g (.own x) E nx := h
-- targets
theorem x_gN (s : SetR E i (some (.dat x)) E') (h : nx E') : gN i x E nx := by unfold gN; rw [s.eq]; exact h
theorem x_gT {n : Nat} {ws : WGs} {l : List D} (hl : l.length = n) (h : ws l E nx) : gT n ws (.tup l) E nx := by
  show _ ∧ _
  first | exact ⟨hl, h⟩ | exact ⟨hl.symm, h⟩
theorem x_gsN (h : nx E) : gsN [] E nx := ⟨rfl, h⟩
theorem x_gsC {g : WG} {ws : WGs} {l : List D} (h : g x E fun E1 => ws l E1 nx) : gsC g ws (x :: l) E nx := h
-- tests
theorem x_iteT (h : A) : if true = true then A else C := h
theorem x_iteF (h : C) : if false = true then A else C := h
theorem x_iteD {p : Prop} {_i : Decidable p} (h : p → A) (h' : ¬ p → C) : if decide p = true then A else C := by
  by_cases q : p
  · rw [decide_eq_true q]; exact h q
  · rw [decide_eq_false q]; exact h' q
theorem x_iteN {p : Prop} {_i : Decidable p} (h : ¬ p → A) (h' : p → C) : if (!decide p) = true then A else C := by
  by_cases q : p
  · rw [decide_eq_true q]; exact h' q
  · rw [decide_eq_false q]; exact h q
theorem x_iteB {k : Bool} (h : k = true → A) (h' : k = false → C) : if k = true then A else C := by
  cases k
  · exact h' rfl
  · exact h rfl
theorem x_iteM {k : Bool} (h : k = false → A) (h' : k = true → C) : if (!k) = true then A else C := by
  cases k
  · exact h rfl
  · exact h' rfl
theorem x_tst (h : w E fun b E1 => tstK b E1 QT) : wTst w E QT := h
theorem x_tstK {k : Bool} (h : QT k E) : tstK (.dat (.bl k)) E QT := h
theorem x_and (h : t E fun k E1 => if k = true then u E1 QT else QT false E1) : wAnd t u E QT := h
theorem x_or (h : t E fun k E1 => if k = true then QT true E1 else u E1 QT) : wOr t u E QT := h
theorem x_not (h : t E fun k E1 => QT (!k) E1) : wNot t E QT := h
def truK (o : Opn) (E : En) (Q : Bool → En → Prop) : Prop := match o.get E with
  | some d => truOk d ∧ Q (truD d) E
  | _ => False
theorem x_tru (h : oa E fun o E1 => truK o E1 QT) : wTru oa E QT := h
theorem x_truK (g : GetR E o x) (k : truOk x) (h : QT (truD x) E) : truK o E QT := by unfold truK; rw [g.eq]; exact ⟨k, h⟩
-- values
theorem x_C (h : Q (.dat x) E) : wC x E Q := h
theorem x_Vd (g : AtR E i (.dat x)) (h : Q (.dat x) E) : wV i E Q := by unfold wV; rw [g.eq]; exact h
theorem x_Vo (g : AtR E i (.own x)) (s : SetR E i (some (.dat x)) E') (h : Q (.dat x) E') : wV i E Q := by unfold wV; rw [g.eq]; show Q (.dat x) (E.set i (some (.dat x))); rw [s.eq]; exact h
theorem x_Md (g : AtR E i (.dat x)) (h : Q (.dat x) E) : wM i E Q := by unfold wM; rw [g.eq]; exact h
theorem x_Mo (g : AtR E i (.own x)) (s : SetR E i none E') (h : Q (.own x) E') : wM i E Q := by unfold wM; rw [g.eq]; show Q (.own x) (E.set i none); rw [s.eq]; exact h
theorem x_oVd (g : AtR E i (.dat x)) (h : QO (.val x) E) : oV i E QO := by unfold oV; rw [g.eq]; exact h
theorem x_oVo (g : AtR E i (.own x)) (h : QO (.slot i) E) : oV i E QO := by unfold oV; rw [g.eq]; exact h
theorem x_oVp {p : Addr} (g : AtR E i (.par p x)) (h : QO (.slot i) E) : oV i E QO := by unfold oV; rw [g.eq]; exact h
theorem x_oE (h : w E fun b E1 => valK b E1 QO) : oE w E QO := h
theorem x_valKd (h : QO (.val x) E) : valK (.dat x) E QO := h
theorem x_valKo (h : QO (.val x) E) : valK (.own x) E QO := h
theorem x_op (h : oa E fun o E1 => ob E1 fun o2 E2 => opK wr o o2 E2 Q) : wOp wr oa ob E Q := h
theorem x_opK (g : GetR E o x) (g2 : GetR E o2 y) (h : wr x y fun b => Q b E) : opK wr o o2 E Q := by unfold opK; rw [g.eq, g2.eq]; exact h
theorem x_un (h : oa E fun o E1 => unK w1 o E1 Q) : wUn w1 oa E Q := h
theorem x_unK (g : GetR E o x) (h : w1 x fun b => Q b E) : unK w1 o E Q := by unfold unK; rw [g.eq]; exact h
theorem x_ifE (h : t E fun k E1 => if k = true then wa E1 Q else wb E1 Q) : wIf t wa wb E Q := h
def andK (u : WE) (b : B) (E : En) (Q : B → En → Prop) : Prop := match b with
  | .dat (.bl k) => if k = true then u E Q else Q (.dat (.bl false)) E
  | _ => False
def orK (u : WE) (b : B) (E : En) (Q : B → En → Prop) : Prop := match b with
  | .dat (.bl k) => if k = true then Q (.dat (.bl true)) E else u E Q
  | _ => False
def notK (b : B) (E : En) (Q : B → En → Prop) : Prop := match b with
  | .dat (.bl k) => Q (.dat (.bl (!k))) E
  | _ => False
theorem x_andV (h : wa E fun b E1 => andK wb b E1 Q) : wAndV wa wb E Q := h
theorem x_orV (h : wa E fun b E1 => orK wb b E1 Q) : wOrV wa wb E Q := h
theorem x_notV (h : wa E fun b E1 => notK b E1 Q) : wNotV wa E Q := h
theorem x_andK {k : Bool} (h : if k = true then we E Q else Q (.dat (.bl false)) E) : andK we (.dat (.bl k)) E Q := h
theorem x_orK {k : Bool} (h : if k = true then Q (.dat (.bl true)) E else we E Q) : orK we (.dat (.bl k)) E Q := h
theorem x_notK {k : Bool} (h : Q (.dat (.bl (!k))) E) : notK (.dat (.bl k)) E Q := h
-- several values
theorem x_aN (h : QA [] E) : aN E QA := h
theorem x_aC (h : w E fun b E1 => acK b r E1 QA) : aC w r E QA := h
theorem x_acKd (h : r E fun ds E2 => QA (x :: ds) E2) : acK (.dat x) r E QA := h
theorem x_acKo (h : r E fun ds E2 => QA (x :: ds) E2) : acK (.own x) r E QA := h
def tupK (ds : List D) (E : En) (Q : B → En → Prop) : Prop := ds.length ≤ 16777216 ∧ Q (.dat (.tup ds)) E
def lstK (ds : List D) (E : En) (Q : B → En → Prop) : Prop := ds.length ≤ 16777216 ∧ Q (.own (.lst ds)) E
theorem x_tup (h : r E fun ds E1 => tupK ds E1 Q) : wTup r E Q := h
theorem x_lst (h : r E fun ds E1 => lstK ds E1 Q) : wLst r E Q := h
theorem x_tupK {ds : List D} (g : ds.length ≤ 16777216) (h : Q (.dat (.tup ds)) E) : tupK ds E Q := ⟨g, h⟩
theorem x_lstK {ds : List D} (g : ds.length ≤ 16777216) (h : Q (.own (.lst ds)) E) : lstK ds E Q := ⟨g, h⟩
-- calls
theorem x_call {fs : FS} (h : r E fun ds E1 => fs ds fun b => Q b E1) : wCall fs r E Q := h
theorem x_fs0 {f : (B → Prop) → Prop} (h : f P) : fs0 f [] P := ⟨rfl, h⟩
theorem x_fs1 {f : D → (B → Prop) → Prop} {d1 : D} (h : f d1 P) : fs1 f [d1] P := ⟨_, rfl, h⟩
theorem x_fs2 {f : D → D → (B → Prop) → Prop} {d1 d2 : D} (h : f d1 d2 P) : fs2 f [d1, d2] P := ⟨_, _, rfl, h⟩
theorem x_fs3 {f : D → D → D → (B → Prop) → Prop} {d1 d2 d3 : D} (h : f d1 d2 d3 P) : fs3 f [d1, d2, d3] P := ⟨_, _, _, rfl, h⟩
theorem x_fs4 {f : D → D → D → D → (B → Prop) → Prop} {d1 d2 d3 d4 : D} (h : f d1 d2 d3 d4 P) : fs4 f [d1, d2, d3, d4] P := ⟨_, _, _, _, rfl, h⟩
theorem x_fs5 {f : D → D → D → D → D → (B → Prop) → Prop} {d1 d2 d3 d4 d5 : D} (h : f d1 d2 d3 d4 d5 P) : fs5 f [d1, d2, d3, d4, d5] P := ⟨_, _, _, _, _, rfl, h⟩
theorem x_fs6 {f : D → D → D → D → D → D → (B → Prop) → Prop} {d1 d2 d3 d4 d5 d6 : D} (h : f d1 d2 d3 d4 d5 d6 P) : fs6 f [d1, d2, d3, d4, d5, d6] P := ⟨_, _, _, _, _, _, rfl, h⟩
def cpK (i : Nat) (fs : PFS) (ds : List D) (E : En) (Q : B → En → Prop) : Prop := match E[i]? with
  | some (some b) => b.mu = true ∧ fs b.d ds fun c d' => Q c (E.set i (some (b.put d')))
  | _ => False
theorem x_callP {fs : PFS} (g : AtR E i bb) (h : r E fun ds E1 => cpK i fs ds E1 Q) : wCallP i fs r E Q := ⟨by unfold hasE; rw [g.eq]; trivial, h⟩
def putK (i : Nat) (b : B) (d : D) (E : En) (Q : En → Prop) : Prop := Q (E.set i (some (b.put d)))
theorem x_putKo {QE : En → Prop} (s : SetR E i (some (.own y)) E') (h : QE E') : putK i (.own x) y E QE := by unfold putK; show QE (E.set i (some (.own y))); rw [s.eq]; exact h
theorem x_putKp {p : Addr} {QE : En → Prop} (s : SetR E i (some (.par p y)) E') (h : QE E') : putK i (.par p x) y E QE := by unfold putK; show QE (E.set i (some (.par p y))); rw [s.eq]; exact h
theorem x_cpKo {fs : PFS} {ds : List D} (g : AtR E i (.own x)) (h : fs x ds fun c d' => putK i (.own x) d' E (Q c)) : cpK i fs ds E Q := by unfold cpK; rw [g.eq]; exact ⟨rfl, h⟩
theorem x_cpKp {p : Addr} {fs : PFS} {ds : List D} (g : AtR E i (.par p x)) (h : fs x ds fun c d' => putK i (.par p x) d' E (Q c)) : cpK i fs ds E Q := by unfold cpK; rw [g.eq]; exact ⟨rfl, h⟩
variable {PP : B → D → Prop}
theorem x_ps0 {f : D → (B → D → Prop) → Prop} {d : D} (h : f d PP) : ps0 f d [] PP := ⟨rfl, h⟩
theorem x_ps1 {f : D → D → (B → D → Prop) → Prop} {d d1 : D} (h : f d d1 PP) : ps1 f d [d1] PP := ⟨_, rfl, h⟩
theorem x_ps2 {f : D → D → D → (B → D → Prop) → Prop} {d d1 d2 : D} (h : f d d1 d2 PP) : ps2 f d [d1, d2] PP := ⟨_, _, rfl, h⟩
theorem x_ps3 {f : D → D → D → D → (B → D → Prop) → Prop} {d d1 d2 d3 : D} (h : f d d1 d2 d3 PP) : ps3 f d [d1, d2, d3] PP := ⟨_, _, _, rfl, h⟩
theorem x_ps4 {f : D → D → D → D → D → (B → D → Prop) → Prop} {d d1 d2 d3 d4 : D} (h : f d d1 d2 d3 d4 PP) : ps4 f d [d1, d2, d3, d4] PP := ⟨_, _, _, _, rfl, h⟩
theorem x_end {p : Addr} {d : D} {l : En} (h : PP bb d) : endP p PP bb (some (.par p d) :: l) := ⟨d, rfl, h⟩
-- methods that change
def mtK (i : Nat) (m : WM1) (yb : B) (E : En) (Q : B → En → Prop) : Prop := match E[i]? with
  | some (some b) => b.mu = true ∧ m b.d yb.d fun res new => Q (.dat res) (E.set i (some (b.put new)))
  | _ => False
theorem x_mut1o {T : String} {m : WM1} (g : AtR E i (.own x)) (ht : tyD T x) (h : we E fun b E1 => mtK i m b E1 Q) : wMut1 T i m we E Q := ⟨by unfold tyE; rw [g.eq]; exact ⟨ht, rfl⟩, h⟩
theorem x_mut1p {T : String} {m : WM1} {p : Addr} (g : AtR E i (.par p x)) (ht : tyD T x) (h : we E fun b E1 => mtK i m b E1 Q) : wMut1 T i m we E Q := ⟨by unfold tyE; rw [g.eq]; exact ⟨ht, rfl⟩, h⟩
theorem x_mtKod {m : WM1} (g : AtR E i (.own x)) (h : m x y fun res new => putK i (.own x) new E (Q (.dat res))) : mtK i m (.dat y) E Q := by unfold mtK; rw [g.eq]; exact ⟨rfl, h⟩
theorem x_mtKoo {m : WM1} (g : AtR E i (.own x)) (h : m x y fun res new => putK i (.own x) new E (Q (.dat res))) : mtK i m (.own y) E Q := by unfold mtK; rw [g.eq]; exact ⟨rfl, h⟩
theorem x_mtKpd {m : WM1} {p : Addr} (g : AtR E i (.par p x)) (h : m x y fun res new => putK i (.par p x) new E (Q (.dat res))) : mtK i m (.dat y) E Q := by unfold mtK; rw [g.eq]; exact ⟨rfl, h⟩
theorem x_mtKpo {m : WM1} {p : Addr} (g : AtR E i (.par p x)) (h : m x y fun res new => putK i (.par p x) new E (Q (.dat res))) : mtK i m (.own y) E Q := by unfold mtK; rw [g.eq]; exact ⟨rfl, h⟩
variable {PM : D → D → Prop} {l m : List D}
theorem x_append (k : l.length < 16777216) (h : PM .non (.lst (l ++ [x]))) : mAppend (.lst l) x PM := ⟨k, h⟩
theorem x_extend (k : l.length + m.length ≤ 16777216) (h : PM .non (.lst (l ++ m))) : mExtend (.lst l) (.lst m) PM := ⟨k, h⟩
theorem x_mut0o {T : String} {mm : WM0} (g : AtR E i (.own x)) (ht : tyD T x) (h : mm x fun res new => putK i (.own x) new E (Q (.dat res))) : wMut0 T i mm E Q := by unfold wMut0; rw [g.eq]; exact ⟨⟨ht, rfl⟩, h⟩
theorem x_mut0p {T : String} {mm : WM0} {p : Addr} (g : AtR E i (.par p x)) (ht : tyD T x) (h : mm x fun res new => putK i (.par p x) new E (Q (.dat res))) : wMut0 T i mm E Q := by unfold wMut0; rw [g.eq]; exact ⟨⟨ht, rfl⟩, h⟩
theorem x_pop0 (k : l[l.length - 1]? = some x) (h : PM x (.lst l.dropLast)) : mPop0 (.lst l) PM := ⟨x, k, h⟩
-- o[k] = v
def subK (i : Nat) (wi : WE) (v : B) (E : En) (nx : En → Prop) : Prop := hasE E i ∧ wi E fun k E2 => match E2[i]? with
  | some (some b) => b.mu = true ∧ setD b.d k.d v.d fun new => nx (E2.set i (some (b.put new)))
  | _ => False
def subK2 (i : Nat) (v : B) (k : B) (E : En) (nx : En → Prop) : Prop := match E[i]? with
  | some (some b) => b.mu = true ∧ setD b.d k.d v.d fun new => nx (E.set i (some (b.put new)))
  | _ => False
theorem x_sub (h : we E fun v E1 => subK i wa v E1 nx) : sSub i wa we ⟨nx, rt, bk, ct⟩ E := h
theorem x_subK (g : AtR E i bb) {v : B} (h : wa E fun k E2 => subK2 i v k E2 nx) : subK i wa v E nx := ⟨by unfold hasE; rw [g.eq]; trivial, h⟩
theorem x_subKo {v k : B} (g : AtR E i (.own x)) (h : setD x k.d v.d fun new => putK i (.own x) new E nx) : subK2 i v k E nx := by unfold subK2; rw [g.eq]; exact ⟨rfl, h⟩
theorem x_subKp {v k : B} {p : Addr} (g : AtR E i (.par p x)) (h : setD x k.d v.d fun new => putK i (.par p x) new E nx) : subK2 i v k E nx := by unfold subK2; rw [g.eq]; exact ⟨rfl, h⟩
-- loops
def itK (b : B) (E : En) (Q : List D → En → Prop) : Prop := ∃ ds, itemsD b.d = some ds ∧ Q ds E
theorem x_iS (h : w E fun b E1 => itK b E1 QA) : iS w E QA := h
theorem x_itKld (h : QA l E) : itK (.dat (.lst l)) E QA := ⟨l, rfl, h⟩
theorem x_itKlo (h : QA l E) : itK (.own (.lst l)) E QA := ⟨l, rfl, h⟩
theorem x_itKtd (h : QA l E) : itK (.dat (.tup l)) E QA := ⟨l, rfl, h⟩
theorem x_itKsd {s : List Nat} (h : QA (s.map fun c => .str [c]) E) : itK (.dat (.str s)) E QA := ⟨_, rfl, h⟩
theorem x_itKc {s : List Int} (h : QA (s.map .int) E) : itK (.dat (.scr s)) E QA := ⟨_, rfl, h⟩
theorem x_itKdd {t : Bool} {kd : List (D × D)} (h : QA (kd.map (·.1)) E) : itK (.dat (.dct t kd)) E QA := ⟨_, rfl, h⟩
theorem x_itKdo {t : Bool} {kd : List (D × D)} (h : QA (kd.map (·.1)) E) : itK (.own (.dct t kd)) E QA := ⟨_, rfl, h⟩
def forK (g : WG) (a : WS) (D0 : EndP) (ds : List D) (E1 : En) : Prop := ∃ W : Nat → En → Prop, W 0 E1 ∧
  (∀ i d E', ds[i]? = some d → W i E' → g d E' fun E2 => a { D0 with nx := W (i + 1), ct := W (i + 1), bk := D0.nx } E2) ∧ ∀ E', W ds.length E' → D0.nx E'
theorem x_for {wi : WI} {g : WG} (h : wi E fun ds E1 => forK g a ⟨nx, rt, bk, ct⟩ ds E1) : sFor wi g a ⟨nx, rt, bk, ct⟩ E := h
theorem x_forK {g : WG} {ds : List D} (W : Nat → En → Prop) (h0 : W 0 E) (hs : ∀ i d E', ds[i]? = some d → W i E' → g d E' fun E2 => a ⟨W (i + 1), rt, nx, W (i + 1)⟩ E2) (hd : ∀ E', W ds.length E' → nx E') : forK g a ⟨nx, rt, bk, ct⟩ ds E := ⟨W, h0, hs, hd⟩
theorem x_while (W : Nat → En → Prop) (m0 : Nat) (h0 : W m0 E) (hs : ∀ m E', W m E' → t E' fun k E1 => if k = true then a ⟨fun E'' => ∃ m', m' < m ∧ W m' E'', rt, nx, fun E'' => ∃ m', m' < m ∧ W m' E''⟩ E1 else nx E1) : sWhile t a ⟨nx, rt, bk, ct⟩ E := ⟨W, ⟨m0, h0⟩, hs⟩
def r1K (b : B) (E : En) (Q : List D → En → Prop) : Prop := match b.d with
  | .int n => (-(2 ^ 62) ≤ n ∧ n < 2 ^ 62) ∧ Q (rng 0 n.toNat) E
  | _ => False
def r2K (a b : B) (E : En) (Q : List D → En → Prop) : Prop := match a.d, b.d with
  | .int i, .int j => (-(2 ^ 62) ≤ i ∧ i < 2 ^ 62 ∧ -(2 ^ 62) ≤ j ∧ j < 2 ^ 62) ∧ Q (rng i (j - i).toNat) E
  | _, _ => False
theorem x_iR1 (h : w E fun b E1 => r1K b E1 QA) : iR1 w E QA := h
theorem x_iR2 (h : wa E fun b E1 => wb E1 fun b2 E2 => r2K b b2 E2 QA) : iR2 wa wb E QA := h
theorem x_r1K {n : Int} (k : -(2 ^ 62) ≤ n ∧ n < 2 ^ 62) (h : QA (rng 0 n.toNat) E) : r1K (.dat (.int n)) E QA := ⟨k, h⟩
theorem x_r2K {n m : Int} (k : -(2 ^ 62) ≤ n ∧ n < 2 ^ 62 ∧ -(2 ^ 62) ≤ m ∧ m < 2 ^ 62) (h : QA (rng n (m - n).toNat) E) : r2K (.dat (.int n)) (.dat (.int m)) E QA := ⟨k, h⟩
-- comprehensions
def lcK (wg : WG) (wt : WT) (we : WE) (vs : List Nat) (ds : List D) (E1 : En) (Q : B → En → Prop) : Prop := ∃ W : Nat → List D → En → Prop, W 0 [] (wipeE E1 vs) ∧
  (∀ i d acc E', ds[i]? = some d → W i acc E' → wg d E' fun E2 => wt E2 fun b E3 => if b = true then we E3 fun y E4 => acc.length < 16777216 ∧ W (i + 1) (acc ++ [y.d]) (wipeE E4 vs) else W (i + 1) acc (wipeE E3 vs)) ∧
  ∀ acc E', W ds.length acc E' → Q (.own (.lst acc)) (backE E' E1 vs)
theorem x_lc {wi : WI} {wg : WG} {vs : List Nat} (h : wi E fun ds E1 => lcK wg t we vs ds E1 Q) : wLc wi wg t we vs E Q := h
/-- what one item gives -/
def ltK (vs : List Nat) (E0 : En) (R : D → Prop) (b : B) (E : En) : Prop := R b.d ∧ wipeE E vs = E0
variable {wg : WG} {vs : List Nat} {ds : List D}
theorem x_lcK (W : Nat → List D → En → Prop) (h0 : W 0 [] (wipeE E vs)) (hs : ∀ i d acc E', ds[i]? = some d → W i acc E' → wg d E' fun E2 => t E2 fun b E3 => if b = true then we E3 fun y E4 => acc.length < 16777216 ∧ W (i + 1) (acc ++ [y.d]) (wipeE E4 vs) else W (i + 1) acc (wipeE E3 vs))
    (hd : ∀ acc E', W ds.length acc E' → Q (.own (.lst acc)) (backE E' E vs)) : lcK wg t we vs ds E Q := ⟨W, h0, hs, hd⟩
theorem take_snoc {α : Type} {l : List α} {i : Nat} {x : α} (h : l[i]? = some x) : l.take (i + 1) = l.take i ++ [x] := by
  rw [List.take_succ, h]; rfl
/-- the items with p, each f of it -/
def fW (p : D → Bool) (f : D → D) (ds : List D) (E0 : En) : Nat → List D → En → Prop := fun i acc E' => acc = ((ds.take i).filter p).map f ∧ E' = E0
def yK (p : D → Bool) (f : D → D) (ds : List D) (vs : List Nat) (E0 : En) (i : Nat) (y : B) (E4 : En) : Prop := (((ds.take i).filter p).map f).length < 16777216 ∧ fW p f ds E0 (i + 1) (((ds.take i).filter p).map f ++ [y.d]) (wipeE E4 vs)
def nK (p : D → Bool) (f : D → D) (ds : List D) (vs : List Nat) (E0 : En) (i : Nat) (E3 : En) : Prop := fW p f ds E0 (i + 1) (((ds.take i).filter p).map f) (wipeE E3 vs)
theorem x_lcF (p : D → Bool) (f : D → D) {E0 E9 : En} (e0 : wipeE E vs = E0) (e9 : backE E0 E vs = E9) (hs : ∀ (i : Nat) (d : D), ds[i]? = some d → wg d E0 fun E2 => t E2 fun b E3 => if b = true then we E3 (yK p f ds vs E0 i) else nK p f ds vs E0 i E3)
    (hd : Q (.own (.lst ((ds.filter p).map f))) E9) : lcK wg t we vs ds E Q := by
  subst e0 e9
  refine x_lcK (fW p f ds (wipeE E vs)) ⟨rfl, rfl⟩ ?_ ?_
  · rintro i d acc E' hi ⟨rfl, rfl⟩
    exact hs i d hi
  · rintro acc E' ⟨rfl, rfl⟩
    rw [List.take_length]; exact hd
theorem x_lcM (f : D → D) {E0 E9 : En} (e0 : wipeE E vs = E0) (e9 : backE E0 E vs = E9) (hs : ∀ (i : Nat) (d : D), ds[i]? = some d → wg d E0 fun E2 => t E2 fun b E3 => if b = true then we E3 (yK (fun _ => true) f ds vs E0 i) else nK (fun _ => true) f ds vs E0 i E3)
    (hd : Q (.own (.lst (ds.map f))) E9) : lcK wg t we vs ds E Q := x_lcF (fun _ => true) f e0 e9 hs (by rw [List.filter_eq_self.mpr fun _ _ => rfl]; exact hd)
theorem yK_of {p : D → Bool} {f : D → D} {E0 E4 : En} {d : D} {yb : B} (hi : ds[i]? = some d) (hl : ds.length ≤ 16777216) (hp : p d = true) (hf : yb.d = f d) (hw : wipeE E4 vs = E0) : yK p f ds vs E0 i yb E4 := by
  refine ⟨?_, ?_, hw⟩
  · rw [List.length_map]
    have := List.length_filter_le p (ds.take i)
    rw [List.length_take] at this
    have := (List.getElem?_eq_some_iff.mp hi).1
    omega
  · rw [take_snoc hi, List.filter_append, List.filter_cons_of_pos hp, List.map_append, hf]; rfl
theorem nK_of {p : D → Bool} {f : D → D} {E0 E3 : En} {d : D} (hi : ds[i]? = some d) (hp : p d = false) (hw : wipeE E3 vs = E0) : nK p f ds vs E0 i E3 := by
  refine ⟨?_, hw⟩
  rw [take_snoc hi, List.filter_append, List.filter_cons_of_neg (by rw [hp]; decide)]; simp
/-- each item gives some value with Pd; J holds between -/
def aW (Pd : Nat → D → Prop) (J : En → Prop) (n : Nat) : Nat → List D → En → Prop := fun i acc E' => acc.length = i ∧ i ≤ n ∧ (∀ (j : Nat) (x : D), acc[j]? = some x → Pd j x) ∧ J E'
def aK (Pd : Nat → D → Prop) (J : En → Prop) (vs : List Nat) (n i : Nat) (acc : List D) (y : B) (E4 : En) : Prop := acc.length < 16777216 ∧ aW Pd J n (i + 1) (acc ++ [y.d]) (wipeE E4 vs)
theorem aK_of {Pd : Nat → D → Prop} {J : En → Prop} {n : Nat} {acc : List D} {yb : B} {E4 : En} (hl : n ≤ 16777216) (h : aW Pd J n i acc E') (hn : i < n) (h1 : Pd i yb.d) (h2 : J (wipeE E4 vs)) : aK Pd J vs n i acc yb E4 := by
  obtain ⟨e, l, k, _⟩ := h
  refine ⟨by omega, by simp [e], by omega, fun j x hx => ?_, h2⟩
  rcases Nat.lt_or_ge j acc.length with hj | hj
  · rw [List.getElem?_append_left hj] at hx; exact k j x hx
  · rw [List.getElem?_append_right hj] at hx
    have : j - acc.length = 0 := by
      cases z : j - acc.length with
      | zero => rfl
      | succ m => rw [z] at hx; simp at hx
    rw [this] at hx
    cases hx
    have : j = i := by omega
    subst this; exact h1
theorem x_lcA (Pd : Nat → D → Prop) (J : En → Prop) (h0 : J (wipeE E vs)) (hs : ∀ (i : Nat) (d : D) (acc : List D) (E' : En), ds[i]? = some d → i < ds.length → J E' → aW Pd J ds.length i acc E' → wg d E' fun E2 => t E2 fun b E3 => if b = true then we E3 (aK Pd J vs ds.length i acc) else False)
    (ht : t = wYes) (hd : ∀ acc E', acc.length = ds.length → (∀ (j : Nat) (x : D), acc[j]? = some x → Pd j x) → J E' → Q (.own (.lst acc)) (backE E' E vs)) : lcK wg t we vs ds E Q := by
  subst ht
  refine x_lcK (aW Pd J ds.length) ⟨rfl, Nat.zero_le _, fun j x h => by simp at h, h0⟩ ?_ ?_
  · intro i d acc E' hi h
    exact hs i d acc E' hi (List.getElem?_eq_some_iff.mp hi).1 h.2.2.2 h
  · rintro acc E' ⟨e, _, k, j⟩
    exact hd acc E' e k j
end
end PW

set_option Elab.async false
set_option linter.all false
set_option autoImplicit false
set_option maxRecDepth 100000
set_option maxHeartbeats 4000000
namespace PW
open PySem PySem.Spec PyProof.Rows L2

/-! ### small facts about data -/
theorem okD_int (i : Int) : okD (.int i) = true := rfl
/-- a text's signs are code points -/
def okS (s : List Nat) : Prop := ∀ c ∈ s, c < 1114112
theorem okS_app {a b : List Nat} (h : okS a) (h' : okS b) : okS (a ++ b) := fun c hc => by
  rcases List.mem_append.mp hc with z | z
  · exact h c z
  · exact h' c z
theorem lay_str {s : List Nat} (h : okS s) : PyData.canLay0 (.str (mkS s)) = true := by
  simp only [PyData.canLay0]
  show (mkS s).cps.all _ = true
  rw [Array.all_eq_true_iff_forall_mem]
  intro c hc
  exact decide_eq_true (h c (by simpa [mkS] using hc))
theorem okD_bl (b : Bool) : okD (.bl b) = true := rfl
theorem okD_non : okD .non = true := rfl
theorem eqD_int (i j : Int) : eqD (.int i) (.int j) = decide (i = j) := by
  show PyData.eqv (.int i) (.int j) = _
  by_cases h : i = j
  · subst h; simp [PyData.eqv]
  · simp [PyData.eqv, h]
theorem eqD_bl (a b : Bool) : eqD (.bl a) (.bl b) = (a == b) := by
  show PyData.eqv (.bool a) (.bool b) = _
  cases a <;> cases b <;> rfl
theorem canLayAll_of {l : List D} (h : ∀ d ∈ l, PyData.canLay0 d.py = true) : PyData.canLayAll0 (D.pys l) = true := by
  induction l with
  | nil => simp [D.pys, PyData.canLayAll0]
  | cons d l ih =>
    simp only [D.pys, PyData.canLayAll0, Bool.and_eq_true]
    exact ⟨h d List.mem_cons_self, ih fun d' hd => h d' (List.mem_cons_of_mem _ hd)⟩
theorem depthAll_of {l : List D} {n : Nat} (h : ∀ d ∈ l, d.py.depth ≤ n) : PyData.depthAll (D.pys l) ≤ n := by
  induction l with
  | nil => simp [D.pys, PyData.depthAll]
  | cons d l ih =>
    simp only [D.pys, PyData.depthAll]
    have h1 := h d List.mem_cons_self
    have h2 := ih fun d' hd => h d' (List.mem_cons_of_mem _ hd)
    omega
/-- laid out, and so deep at most -/
def okN (n : Nat) (d : D) : Prop := PyData.canLay0 d.py = true ∧ d.py.depth ≤ n
theorem okN.mono {n m : Nat} {d : D} (h : okN n d) (l : n ≤ m) : okN m d := ⟨h.1, Nat.le_trans h.2 l⟩
theorem okN.ok {n : Nat} {d : D} (h : okN n d) (l : n ≤ 64 := by decide) : okD d = true := by
  show (PyData.canLay0 d.py && decide (d.py.depth ≤ 64)) = true
  rw [h.1, decide_eq_true (Nat.le_trans h.2 l)]; rfl
theorem okN_int {n : Nat} (i : Int) : okN n (.int i) := ⟨rfl, Nat.zero_le _⟩
theorem okN_str {n : Nat} {s : List Nat} (h : okS s) : okN n (.str s) := ⟨by simp only [D.py]; exact lay_str h, Nat.zero_le _⟩
theorem okD_str {s : List Nat} (h : okS s) : okD (.str s) = true := (okN_str (n := 0) h).ok
theorem okN_bl {n : Nat} (b : Bool) : okN n (.bl b) := ⟨rfl, Nat.zero_le _⟩
theorem okN_non {n : Nat} : okN n .non := ⟨rfl, Nat.zero_le _⟩
theorem okN_lst {n : Nat} {l : List D} (h : ∀ d ∈ l, okN n d) : okN (n + 1) (.lst l) := by
  refine ⟨?_, ?_⟩
  · simp only [D.py, PyData.canLay0]
    exact canLayAll_of fun d hd => (h d hd).1
  · have := depthAll_of fun d hd => (h d hd).2
    simp only [D.py, PyData.depth]
    omega
theorem okN_tup {n : Nat} {l : List D} (h : ∀ d ∈ l, okN n d) : okN (n + 1) (.tup l) := by
  refine ⟨?_, ?_⟩
  · simp only [D.py, PyData.canLay0]
    exact canLayAll_of fun d hd => (h d hd).1
  · have := depthAll_of fun d hd => (h d hd).2
    simp only [D.py, PyData.depth]
    omega
theorem all_cons {α : Type} {p : α → Prop} {a : α} {l : List α} (h : p a) (h' : ∀ x ∈ l, p x) : ∀ x ∈ a :: l, p x := fun x hx => by
  rcases List.mem_cons.mp hx with e | hx
  · subst e; exact h
  · exact h' x hx
theorem all_nil {α : Type} {p : α → Prop} : ∀ x ∈ ([] : List α), p x := fun x hx => by cases hx
def eqDs : List D → List D → Bool
  | [], [] => true
  | x :: l, y :: m => eqD x y && eqDs l m
  | _, _ => false
theorem eqvAll_pys : ∀ l m : List D, PyData.eqvAll (D.pys l) (D.pys m) = eqDs l m
  | [], [] => by simp [D.pys, PyData.eqvAll, eqDs]
  | [], _ :: _ => by simp [D.pys, PyData.eqvAll, eqDs]
  | _ :: _, [] => by simp [D.pys, PyData.eqvAll, eqDs]
  | x :: l, y :: m => by
    simp only [D.pys, PyData.eqvAll, eqDs, eqvAll_pys l m]; rfl
theorem eqD_lst (l m : List D) : eqD (.lst l) (.lst m) = eqDs l m := by
  show PyData.eqv (D.lst l).py (D.lst m).py = _
  simp only [D.py, PyData.eqv]; exact eqvAll_pys l m
theorem eqD_tup (l m : List D) : eqD (.tup l) (.tup m) = eqDs l m := by
  show PyData.eqv (D.tup l).py (D.tup m).py = _
  simp only [D.py, PyData.eqv]; exact eqvAll_pys l m
/-- of data of one kind, == is equality -/
theorem eqDs_map {α : Type} {f : α → D} (h : ∀ a b, eqD (f a) (f b) = true ↔ a = b) : ∀ l m : List α, eqDs (l.map f) (m.map f) = true ↔ l = m
  | [], [] => by simp [eqDs]
  | [], _ :: _ => by simp [eqDs]
  | _ :: _, [] => by simp [eqDs]
  | x :: l, y :: m => by
    simp only [List.map_cons, eqDs, Bool.and_eq_true, h, eqDs_map h l m, List.cons.injEq]
theorem eqDs_dec {α : Type} [DecidableEq α] {f : α → D} (h : ∀ a b, eqD (f a) (f b) = true ↔ a = b) (l m : List α) : eqDs (l.map f) (m.map f) = decide (l = m) := by
  rw [Bool.eq_iff_iff, eqDs_map h, decide_eq_true_iff]
theorem eqI (a b : Int) : eqD (.int a) (.int b) = true ↔ a = b := by rw [eqD_int, decide_eq_true_iff]
theorem eqS (a b : List Nat) : eqD (.str a) (.str b) = true ↔ a = b := by rw [eqD_str, decide_eq_true_iff]
theorem anyD_map {α : Type} [DecidableEq α] {f : α → D} (h : ∀ a b, eqD (f a) (f b) = true ↔ a = b) (x : α) (l : List α) : anyD (f x) (l.map f) = decide (x ∈ l) := by
  rw [Bool.eq_iff_iff, decide_eq_true_iff, anyD, List.any_map, List.any_eq_true]
  constructor
  · rintro ⟨y, hy, e⟩
    have := (h y x).mp e
    subst this; exact hy
  · intro hx; exact ⟨x, hx, (h x x).mpr rfl⟩
theorem atI_nat {α : Type} (l : List α) (i : Nat) : atI l (i : Int) = l[i]? := by
  unfold L2.atI L2.ixN
  by_cases h : i < l.length
  · rw [if_pos (by omega), if_pos (by omega)]; simp
  · rw [if_pos (by omega), if_neg (by omega)]
    simp only [Option.bind_none]
    rw [List.getElem?_eq_none (by omega)]
theorem atI_pos {α : Type} {l : List α} {i : Int} (h : 0 ≤ i) : atI l i = l[i.toNat]? := by
  obtain ⟨n, rfl⟩ := Int.eq_ofNat_of_zero_le h
  rw [atI_nat]; rfl
theorem atI_last {α : Type} (l : List α) : atI l (-1) = l.getLast? := by
  unfold L2.atI L2.ixN
  rw [if_neg (by decide)]
  by_cases h : l.length = 0
  · have : l = [] := List.eq_nil_of_length_eq_zero h
    subst this; rfl
  · rw [if_pos (by omega)]
    simp only [Option.bind_some]
    rw [List.getLast?_eq_getElem?]
    congr 1
    omega

/-! ### operations on values, by the operands' kinds -/
section
variable {P : B → Prop} {i j : Int} {a b : List Nat} {l m : List D} {x y d : D} {k : Bool} {kd : List (D × D)} {t : Bool} {ns : List Int}
theorem x_addi (h : P (.dat (.int (i + j)))) : wAdd (.int i) (.int j) P := h
theorem x_adds (k : a.length + b.length ≤ 16777216) (h : P (.dat (.str (a ++ b)))) : wAdd (.str a) (.str b) P := ⟨k, h⟩
theorem x_addl (k : l.length + m.length ≤ 16777216) (h : P (.own (.lst (l ++ m)))) : wAdd (.lst l) (.lst m) P := ⟨k, h⟩
theorem x_addt (k : l.length + m.length ≤ 16777216) (h : P (.dat (.tup (l ++ m)))) : wAdd (.tup l) (.tup m) P := ⟨k, h⟩
theorem x_subi (h : P (.dat (.int (i - j)))) : wSub (.int i) (.int j) P := h
theorem x_muli (k : MulOk i j) (h : P (.dat (.int (i * j)))) : wMulG (.int i) (.int j) P := ⟨k, h⟩
theorem x_mull (k : -(2 ^ 63) ≤ j ∧ j < 2 ^ 63 ∧ l.length * j.toNat ≤ 16777216) (h : P (.own (.lst (List.replicate j.toNat l).flatten))) : wMulG (.lst l) (.int j) P := ⟨k, h⟩
theorem x_muls (k : j < 1000000 ∧ -1000000 < j ∧ a.length ≤ 16) (h : P (.dat (.str (List.replicate j.toNat a).flatten))) : wMulG (.str a) (.int j) P := ⟨k, h⟩
theorem x_modi (k : 0 < j) (h : P (.dat (.int (i % j)))) : wMod (.int i) (.int j) P := ⟨k, h⟩
theorem x_fdiv (k : 0 < j ∧ j.natAbs < 2 ^ 2000) (h : P (.dat (.int (i / j)))) : wFdiv (.int i) (.int j) P := ⟨k, h⟩
theorem x_powi (k : 0 ≤ j ∧ j ≤ 1000000 ∧ i.natAbs < 2 ^ 64) (h : P (.dat (.int (i ^ j.toNat)))) : wPow (.int i) (.int j) P := ⟨k, h⟩
theorem x_shli (k : 0 ≤ j ∧ j ≤ 1000000 ∧ i.natAbs < 2 ^ 64) (h : P (.dat (.int (i * 2 ^ j.toNat)))) : wShl (.int i) (.int j) P := ⟨k, h⟩
theorem x_bandi (h : P (.dat (.int (Builtin.bitAnd i j)))) : wBand (.int i) (.int j) P := h
theorem x_negi (h : P (.dat (.int (-i)))) : wNeg (.int i) P := h
theorem x_eqi (h : P (.dat (.bl (decide (i = j))))) : wEq (.int i) (.int j) P := ⟨.inr ⟨rfl, rfl⟩, by rw [eqD_int]; exact h⟩
theorem x_eqs (h : P (.dat (.bl (decide (a = b))))) : wEq (.str a) (.str b) P := ⟨.inl ⟨_, _, rfl, rfl⟩, by rw [eqD_str]; exact h⟩
theorem x_eq (o1 : okD x = true) (o2 : okD y = true) (h : P (.dat (.bl (eqD x y)))) : wEq x y P := ⟨.inr ⟨o1, o2⟩, h⟩
theorem x_nei (h : P (.dat (.bl (!decide (i = j))))) : wNe (.int i) (.int j) P := ⟨.inr ⟨rfl, rfl⟩, by rw [eqD_int]; exact h⟩
theorem x_nes (h : P (.dat (.bl (!decide (a = b))))) : wNe (.str a) (.str b) P := ⟨.inl ⟨_, _, rfl, rfl⟩, by rw [eqD_str]; exact h⟩
theorem x_ne (o1 : okD x = true) (o2 : okD y = true) (h : P (.dat (.bl (!eqD x y)))) : wNe x y P := ⟨.inr ⟨o1, o2⟩, h⟩
theorem x_lti (h : P (.dat (.bl (decide (i < j))))) : wLt (.int i) (.int j) P := h
theorem x_gti (h : P (.dat (.bl (decide (j < i))))) : wGt (.int i) (.int j) P := h
theorem x_lei (h : P (.dat (.bl (decide (i ≤ j))))) : wLe (.int i) (.int j) P := h
theorem x_gei (h : P (.dat (.bl (decide (j ≤ i))))) : wGe (.int i) (.int j) P := h
theorem x_ltt (k : cmpOk (.tup l) (.tup m)) (h : P (.dat (.bl (ltD (.tup l) (.tup m))))) : wLt (.tup l) (.tup m) P := ⟨k, h⟩
theorem x_gtt (k : cmpOk (.tup l) (.tup m)) (h : P (.dat (.bl (ltD (.tup m) (.tup l))))) : wGt (.tup l) (.tup m) P := ⟨k, h⟩
theorem x_lts (k : okS a) (k2 : okS b) (h : P (.dat (.bl (ltD (.str a) (.str b))))) : wLt (.str a) (.str b) P := ⟨⟨okD_str k, okD_str k2, rfl, rfl⟩, h⟩
theorem x_gts (k : okS a) (k2 : okS b) (h : P (.dat (.bl (ltD (.str b) (.str a))))) : wGt (.str a) (.str b) P := ⟨⟨okD_str k, okD_str k2, rfl, rfl⟩, h⟩
theorem x_isNn (h : P (.dat (.bl true))) : wIsN .non .non P := ⟨rfl, h⟩
theorem x_isNi (h : P (.dat (.bl false))) : wIsN (.int i) .non P := ⟨rfl, h⟩
theorem x_isNs (h : P (.dat (.bl false))) : wIsN (.str a) .non P := ⟨rfl, h⟩
theorem x_isNt (h : P (.dat (.bl false))) : wIsN (.tup l) .non P := ⟨rfl, h⟩
theorem x_isNl (h : P (.dat (.bl false))) : wIsN (.lst l) .non P := ⟨rfl, h⟩
theorem x_isNb (h : P (.dat (.bl false))) : wIsN (.bl k) .non P := ⟨rfl, h⟩
theorem x_isNd (h : P (.dat (.bl false))) : wIsN (.dct t kd) .non P := ⟨rfl, h⟩
theorem x_isN (h : P (.dat (.bl (isNon x)))) : wIsN x .non P := ⟨rfl, h⟩
theorem x_notNn (h : P (.dat (.bl false))) : wNotN .non .non P := ⟨rfl, h⟩
theorem x_notNi (h : P (.dat (.bl true))) : wNotN (.int i) .non P := ⟨rfl, h⟩
theorem x_notNs (h : P (.dat (.bl true))) : wNotN (.str a) .non P := ⟨rfl, h⟩
theorem x_notNt (h : P (.dat (.bl true))) : wNotN (.tup l) .non P := ⟨rfl, h⟩
theorem x_notNl (h : P (.dat (.bl true))) : wNotN (.lst l) .non P := ⟨rfl, h⟩
theorem x_notN (h : P (.dat (.bl (!isNon x)))) : wNotN x .non P := ⟨rfl, h⟩
theorem x_isB {k2 : Bool} (h : P (.dat (.bl (k == k2)))) : wIsB (.bl k) (.bl k2) P := ⟨rfl, h⟩
theorem x_notB {k2 : Bool} (h : P (.dat (.bl (!(k == k2))))) : wNotB (.bl k) (.bl k2) P := ⟨rfl, h⟩
theorem x_inl (o1 : (flatD x = true ∧ l.all flatD = true) ∨ (okD x = true ∧ okD (.lst l) = true)) (h : P (.dat (.bl (anyD x l)))) : wIn x (.lst l) P := ⟨o1, h⟩
theorem x_ninl (o1 : (flatD x = true ∧ l.all flatD = true) ∨ (okD x = true ∧ okD (.lst l) = true)) (h : P (.dat (.bl (!anyD x l)))) : wNin x (.lst l) P := ⟨o1, h⟩
theorem x_int_ (o1 : flatD x = true) (o2 : l.all flatD = true) (h : P (.dat (.bl (anyD x l)))) : wIn x (.tup l) P := ⟨⟨o1, o2⟩, h⟩
theorem x_nint (o1 : flatD x = true) (o2 : l.all flatD = true) (h : P (.dat (.bl (!anyD x l)))) : wNin x (.tup l) P := ⟨⟨o1, o2⟩, h⟩
theorem x_ind (o1 : keyOk t x = true) (h : P (.dat (.bl (lookD kd x).isSome))) : wIn x (.dct t kd) P := ⟨by cases x <;> first | exact o1 | (cases t <;> exact o1), by cases x <;> exact h⟩
theorem x_nind (o1 : keyOk t x = true) (h : P (.dat (.bl (!(lookD kd x).isSome)))) : wNin x (.dct t kd) P := ⟨by cases x <;> first | exact o1 | (cases t <;> exact o1), by cases x <;> exact h⟩
theorem x_ins {c : Nat} (h : P (.dat (.bl (decide (c ∈ a))))) : wIn (.str [c]) (.str a) P := ⟨trivial, h⟩
theorem x_nins {c : Nat} (h : P (.dat (.bl (!decide (c ∈ a))))) : wNin (.str [c]) (.str a) P := ⟨trivial, h⟩
theorem x_ixl (k : atI l i = some d) (h : P (.dat d)) : wIx (.lst l) (.int i) P := ⟨trivial, d, k, h⟩
theorem x_ixt (k : atI l i = some d) (h : P (.dat d)) : wIx (.tup l) (.int i) P := ⟨trivial, d, k, h⟩
theorem x_ixs {c : Nat} (ko : a.length ≤ 16777216) (k : atI a i = some c) (h : P (.dat (.str [c]))) : wIx (.str a) (.int i) P := ⟨ko, .str [c], by show (atI a i).map _ = _; rw [k]; rfl, h⟩
theorem x_ixc {n : Int} (k : atI ns i = some n) (h : P (.dat (.int n))) : wIx (.scr ns) (.int i) P := ⟨trivial, .int n, by show (atI ns i).map _ = _; rw [k]; rfl, h⟩
theorem x_ixd (o1 : keyOk t x = true) (k : lookD kd x = some d) (h : P (.dat d)) : wIx (.dct t kd) x P := ⟨trivial, d, by show (if _ then _ else _) = _; rw [if_pos o1, k], h⟩
theorem x_lenl (h : P (.dat (.int l.length))) : wLen (.lst l) P := h
theorem x_lent (h : P (.dat (.int l.length))) : wLen (.tup l) P := h
theorem x_lens (k : a.length ≤ 16777216) (h : P (.dat (.int a.length))) : wLen (.str a) P := ⟨k, h⟩
theorem x_lend (h : P (.dat (.int kd.length))) : wLen (.dct t kd) P := h
theorem x_lenc (h : P (.dat (.int ns.length))) : wLen (.scr ns) P := h
theorem x_inti (h : P (.dat (.int i))) : wInt (.int i) P := h
theorem x_intb (h : P (.dat (.int (if k = true then 1 else 0)))) : wInt (.bl k) P := h
theorem x_max2 (h : P (.dat (.int (max i j)))) : wMax2 (.int i) (.int j) P := h
theorem x_min2 (h : P (.dat (.int (min i j)))) : wMin2 (.int i) (.int j) P := h
theorem x_sum (ns : List Int) (e : l = ns.map .int) (h : P (.dat (.int ns.sum))) : wSum (.lst l) P := ⟨ns, e, h⟩
theorem x_all (bs : List Bool) (e : l = bs.map .bl) (h : P (.dat (.bl (bs.all id)))) : wAll (.lst l) P := ⟨bs, e, h⟩
theorem x_any (bs : List Bool) (e : l = bs.map .bl) (h : P (.dat (.bl (bs.any id)))) : wAny (.lst l) P := ⟨bs, e, h⟩
theorem x_listl (h : P (.own (.lst l))) : wList (.lst l) P := h
theorem x_listt (h : P (.own (.lst l))) : wList (.tup l) P := h
theorem x_tuplel (h : P (.dat (.tup l))) : wTuple (.lst l) P := h
theorem x_tuplet (h : P (.dat (.tup l))) : wTuple (.tup l) P := h
theorem x_sorted (k : sortOk l) (h : P (.own (.lst (l.mergeSort leD)))) : wSorted (.lst l) P := ⟨k, h⟩
theorem x_rev (h : P (.own (.lst l.reverse))) : wRev (.lst l) P := h
theorem x_isi {n : String} (h : P (.dat (.bl (isiD n x)))) : wIsi n x P := h
-- slices
variable {E : En} {Q : B → En → Prop} {wo : WO} {lo hi : WP} {w : WE} {QP : Option Int → En → Prop} {o : Opn} {p q : Option Int}
def slK (o : Opn) (p q : Option Int) (E : En) (Q : B → En → Prop) : Prop := match o.get E with
  | some d => wSl d p q fun b => Q b E
  | _ => False
theorem x_slice (h : wo E fun o E1 => lo E1 fun p E2 => hi E2 fun q E3 => slK o p q E3 Q) : wSlice wo lo hi E Q := h
theorem x_slK (g : GetR E o x) (h : wSl x p q fun b => Q b E) : slK o p q E Q := by unfold slK; rw [g.eq]; exact h
def psK (b : B) (E : En) (Q : Option Int → En → Prop) : Prop := match b with
  | .dat (.int i) => Q (some i) E
  | _ => False
theorem x_pN (h : QP none E) : pN E QP := h
theorem x_pS (h : w E fun b E1 => psK b E1 QP) : pS w E QP := h
theorem x_psK (h : QP (some i) E) : psK (.dat (.int i)) E QP := h
theorem x_sll (h : P (.own (.lst (cut l p q)))) : wSl (.lst l) p q P := h
theorem x_slt (h : P (.dat (.tup (cut l p q)))) : wSl (.tup l) p q P := h
theorem x_sls (k : a.length ≤ 16777216) (h : P (.dat (.str (cut a p q)))) : wSl (.str a) p q P := ⟨k, h⟩
-- methods
variable {wr : D → D → (B → Prop) → Prop} {w1 : D → (B → Prop) → Prop} {T : String} {oa : WO}
def m1K (T : String) (wr : D → D → (B → Prop) → Prop) (wa : WO) (o : Opn) (E1 : En) (Q : B → En → Prop) : Prop := tyO T (o.get E1) ∧ wa E1 fun a E2 => opK wr o a E2 Q
def m0K (T : String) (w1 : D → (B → Prop) → Prop) (o : Opn) (E1 : En) (Q : B → En → Prop) : Prop := tyO T (o.get E1) ∧ unK w1 o E1 Q
theorem x_mt1 (h : wo E fun o E1 => m1K T wr oa o E1 Q) : wMt1 T wr wo oa E Q := h
theorem x_mt0 (h : wo E fun o E1 => m0K T w1 o E1 Q) : wMt0 T w1 wo E Q := h
theorem x_m1K (g : GetR E o x) (t : tyO T (some x)) (h : oa E fun a E2 => opK wr o a E2 Q) : m1K T wr oa o E Q := ⟨by rw [g.eq]; exact t, h⟩
theorem x_m0K (g : GetR E o x) (t : tyO T (some x)) (h : w1 x fun b => Q b E) : m0K T w1 o E Q := ⟨by rw [g.eq]; exact t, by unfold unK; rw [g.eq]; exact h⟩
theorem x_indexL {j : Nat} (o1 : okD (.lst l) = true) (o2 : okD y = true) (k : idxOf l y = some j) (h : P (.dat (.int (j : Nat)))) : wIndexL (.lst l) y P := ⟨o1, o2, j, k, h⟩
variable {nx : En → Prop}
theorem x_setl {N : D → Prop} {v : D} {n : Nat} (k : ixN l.length i = some n) (h : N (.lst (l.set n v))) : setD (.lst l) (.int i) v N := ⟨n, k, h⟩
theorem x_setd {N : D → Prop} {v : D} (k : keyOk t x = true) (k2 : kd.length < 16777216) (h : N (.dct t (putD kd x v))) : setD (.dct t kd) x v N := ⟨k, k2, h⟩
end
/-! ### the start -/
inductive StaR : List B → Nat → En → Prop
  | z : StaR [] 0 []
  | n {n : Nat} {E : En} : StaR [] n E → StaR [] (n + 1) (none :: E)
  | c {n : Nat} {E : En} {b : B} {bs : List B} : StaR bs n E → StaR (b :: bs) (n + 1) (some b :: E)
theorem StaR.eq : ∀ {bs : List B} {n : Nat} {E : En}, StaR bs n E → sta n bs = E
  | _, _, _, .z => rfl
  | _, _, _, .n h => by rw [← h.eq]; simp [sta, List.replicate_succ]
  | _, _, _, .c h => by rw [← h.eq]; simp [sta]
theorem LF0 {n : Nat} {ws : WS} {Pp : B → Prop} {E : En} (s : StaR [] n E) (h : ws ⟨fun _ => Pp (.dat .non), fun b _ => Pp b, noE, noE⟩ E) : LF n ws [] Pp := by unfold LF; rw [show ([] : List D).map B.dat = [] from rfl, s.eq]; exact h
theorem LF1 {n : Nat} {ws : WS} {Pp : B → Prop} {E : En} {a : D} (s : StaR [.dat a] n E) (h : ws ⟨fun _ => Pp (.dat .non), fun b _ => Pp b, noE, noE⟩ E) : LF n ws [a] Pp := by
  unfold LF; show ws _ (sta n [.dat a]); rw [s.eq]; exact h
theorem LF2 {n : Nat} {ws : WS} {Pp : B → Prop} {E : En} {a b : D} (s : StaR [.dat a, .dat b] n E) (h : ws ⟨fun _ => Pp (.dat .non), fun b _ => Pp b, noE, noE⟩ E) : LF n ws [a, b] Pp := by
  unfold LF; show ws _ (sta n [.dat a, .dat b]); rw [s.eq]; exact h
theorem LF3 {n : Nat} {ws : WS} {Pp : B → Prop} {E : En} {a b c : D} (s : StaR [.dat a, .dat b, .dat c] n E) (h : ws ⟨fun _ => Pp (.dat .non), fun b _ => Pp b, noE, noE⟩ E) : LF n ws [a, b, c] Pp := by
  unfold LF; show ws _ (sta n [.dat a, .dat b, .dat c]); rw [s.eq]; exact h
theorem LF4 {n : Nat} {ws : WS} {Pp : B → Prop} {E : En} {a b c d : D} (s : StaR [.dat a, .dat b, .dat c, .dat d] n E) (h : ws ⟨fun _ => Pp (.dat .non), fun b _ => Pp b, noE, noE⟩ E) : LF n ws [a, b, c, d] Pp := by
  unfold LF; show ws _ (sta n [.dat a, .dat b, .dat c, .dat d]); rw [s.eq]; exact h
theorem LF5 {n : Nat} {ws : WS} {Pp : B → Prop} {E : En} {a b c d e : D} (s : StaR [.dat a, .dat b, .dat c, .dat d, .dat e] n E) (h : ws ⟨fun _ => Pp (.dat .non), fun b _ => Pp b, noE, noE⟩ E) : LF n ws [a, b, c, d, e] Pp := by
  unfold LF; show ws _ (sta n [.dat a, .dat b, .dat c, .dat d, .dat e]); rw [s.eq]; exact h
theorem LF6 {n : Nat} {ws : WS} {Pp : B → Prop} {E : En} {a b c d e f : D} (s : StaR [.dat a, .dat b, .dat c, .dat d, .dat e, .dat f] n E) (h : ws ⟨fun _ => Pp (.dat .non), fun b _ => Pp b, noE, noE⟩ E) : LF n ws [a, b, c, d, e, f] Pp := by
  unfold LF; show ws _ (sta n [.dat a, .dat b, .dat c, .dat d, .dat e, .dat f]); rw [s.eq]; exact h
section
variable {n : Nat} {ws : WS} {p : Addr} {d : D} {Pp : B → D → Prop} {E : En}
theorem LP0 (s : StaR [.par p d] n E) (h : ws ⟨endP p Pp (.dat .non), endP p Pp, noE, noE⟩ E) : LP n ws p d [] Pp := by
  unfold LP; show ws _ (sta n [.par p d]); rw [s.eq]; exact h
theorem LP1 {a : D} (s : StaR [.par p d, .dat a] n E) (h : ws ⟨endP p Pp (.dat .non), endP p Pp, noE, noE⟩ E) : LP n ws p d [a] Pp := by
  unfold LP; show ws _ (sta n [.par p d, .dat a]); rw [s.eq]; exact h
theorem LP2 {a b : D} (s : StaR [.par p d, .dat a, .dat b] n E) (h : ws ⟨endP p Pp (.dat .non), endP p Pp, noE, noE⟩ E) : LP n ws p d [a, b] Pp := by
  unfold LP; show ws _ (sta n [.par p d, .dat a, .dat b]); rw [s.eq]; exact h
theorem LP3 {a b c : D} (s : StaR [.par p d, .dat a, .dat b, .dat c] n E) (h : ws ⟨endP p Pp (.dat .non), endP p Pp, noE, noE⟩ E) : LP n ws p d [a, b, c] Pp := by
  unfold LP; show ws _ (sta n [.par p d, .dat a, .dat b, .dat c]); rw [s.eq]; exact h
end
theorem mul_r {i j : Int} (h : -(2 ^ 64) < j ∧ j < 2 ^ 64) : MulOk i j := .inr (.inl h)
theorem mul_l {i j : Int} (h : -(2 ^ 64) < i ∧ i < 2 ^ 64) : MulOk i j := .inl h
theorem mul_b {i j : Int} (h : i.natAbs < 2 ^ 2000) (h' : j.natAbs < 2 ^ 2000) : MulOk i j := .inr (.inr ⟨h, h'⟩)
theorem x_iteNT {A C : Prop} (h : C) : if (!true) = true then A else C := h
theorem x_iteNF {A C : Prop} (h : A) : if (!false) = true then A else C := h
/-! ### slices in plain words -/
theorem sIx_pos (n d : Nat) {i : Int} (h : 0 ≤ i) : HT.sIx n d (some i) = min i.toNat n := by
  show (if i < 0 then _ else _) = _
  rw [if_neg (by omega)]
theorem sIx_neg (n d : Nat) {i : Int} (h : i < 0) : HT.sIx n d (some i) = (i + (n : Int)).toNat := by
  show (if i < 0 then _ else _) = _
  rw [if_pos h]
theorem cut_from {α : Type} (l : List α) {i : Int} (h : 0 ≤ i) : cut l (some i) none = l.drop i.toNat := by
  unfold cut
  rw [sIx_pos _ _ h]
  show (l.drop _).take (l.length - _) = _
  rw [List.take_of_length_le (by rw [List.length_drop]; omega)]
  rcases Nat.le_total i.toNat l.length with g | g
  · rw [Nat.min_eq_left g]
  · rw [Nat.min_eq_right g, List.drop_of_length_le (Nat.le_refl _), List.drop_of_length_le g]
theorem cut_to {α : Type} (l : List α) {i : Int} (h : 0 ≤ i) : cut l none (some i) = l.take i.toNat := by
  unfold cut
  rw [sIx_pos _ _ h]
  show (l.drop 0).take (min _ _ - 0) = _
  rw [List.drop_zero, Nat.sub_zero]
  rcases Nat.le_total i.toNat l.length with g | g
  · rw [Nat.min_eq_left g]
  · rw [Nat.min_eq_right g, List.take_of_length_le (Nat.le_refl _), List.take_of_length_le g]
theorem cut_mid {α : Type} (l : List α) {i j : Int} (h : 0 ≤ i) (h' : 0 ≤ j) : cut l (some i) (some j) = (l.drop i.toNat).take (j.toNat - i.toNat) := by
  unfold cut
  rw [sIx_pos _ _ h, sIx_pos _ _ h']
  rcases Nat.le_total i.toNat l.length with g | g
  · rw [Nat.min_eq_left g]
    rcases Nat.le_total j.toNat l.length with g' | g'
    · rw [Nat.min_eq_left g']
    · rw [Nat.min_eq_right g', List.take_of_length_le (by rw [List.length_drop]; exact Nat.le_refl _), List.take_of_length_le (by rw [List.length_drop]; omega)]
  · rw [Nat.min_eq_right g, List.drop_of_length_le (Nat.le_refl _), List.drop_of_length_le g]; simp
theorem cut_last {α : Type} (l : List α) {k : Nat} (h : k ≤ l.length) (hk : 0 < k) : cut l (some (-(k : Int))) none = l.drop (l.length - k) := by
  unfold cut
  rw [sIx_neg _ _ (by omega)]
  show (l.drop _).take (l.length - _) = _
  have : (-(k : Int) + (l.length : Int)).toNat = l.length - k := by omega
  rw [this, List.take_of_length_le (by rw [List.length_drop]; exact Nat.le_refl _)]
end PW

set_option Elab.async false
set_option linter.all false
set_option autoImplicit false
set_option maxRecDepth 100000
set_option maxHeartbeats 4000000
set_option exponentiation.threshold 5000
namespace PW
open PySem PySem.Spec PyProof.Rows L2

/-! ### what the helpers promise -/
def f__law_mixed : D → D → (B → Prop) → Prop := fun a b P => (∃ i, a = .int i) ∧ (∃ j, b = .int j) ∧ ∀ v : Int, P (.dat (.int v))
def f__law_rest : D → D → D → (B → Prop) → Prop := fun a b c P => (∃ ns, a = .scr ns) ∧ (∃ j, b = .int j) ∧ (∃ i, c = .int i) ∧ ∀ v : Int, P (.dat (.int v))
def isPool (d : D) : Prop := ∃ (ns : List Int) (i v c : Int), d = .lst [.scr ns, .int i, .int v, .int c]
def f__law_pool : D → (B → Prop) → Prop := fun a P => (∃ ns, a = .scr ns) ∧ ∀ d, isPool d → P (.own d)
def f__law_next : D → (B → D → Prop) → Prop := fun d P => isPool d ∧ ∀ d', isPool d' → P (.dat .non) d'
def f__law_draw : D → D → (B → D → Prop) → Prop := fun d l P => isPool d ∧ ∃ n : Int, l = .int n ∧ 0 < n ∧ n < 2 ^ 1900 ∧ ∀ v d', 0 ≤ v → v < n → isPool d' → P (.dat (.int v)) d'
def f__law_pick : D → D → (B → D → Prop) → Prop := fun d o P => isPool d ∧ ∃ l : List D, o = .lst l ∧ l ≠ [] ∧ l.length ≤ 16777216 ∧ ∀ x d', x ∈ l → isPool d' → P (.dat x) d'
def SameN : Nat → D → D → Prop
  | 0, _, _ => False
  | n + 1, a, b => match a, b with
    | .dct t kd, .dct t' kd' => kd.length = kd'.length ∧ ∀ p ∈ kd, keyOk t p.1 = true ∧ keyOk t' p.1 = true ∧ ∃ v v', lookD kd p.1 = some v ∧ lookD kd' p.1 = some v' ∧ SameN n v v'
    | .lst l, .lst l' => l.length = l'.length ∧ l.length < 16777216 ∧ ∀ (i : Nat) (x y : D), l[i]? = some x → l'[i]? = some y → SameN n x y
    | .tup l, .tup l' => l.length = l'.length ∧ l.length < 16777216 ∧ ∀ (i : Nat) (x y : D), l[i]? = some x → l'[i]? = some y → SameN n x y
    | .non, .non => True
    | .bl x, .bl y => x = y
    | .int x, .int y => x = y
    | .str x, .str y => x = y
    | _, _ => False
def f__law_same (n : Nat) : D → D → (B → Prop) → Prop := fun a b P => SameN n a b ∧ P (.dat (.bl true))

/-! ### the plain reading run by instance search: to show goal it is enough to show res -/
class Ev (goal : Prop) (res : outParam Prop) : Prop where h : res → goal
theorem ev_ {g r : Prop} [e : Ev g r] (h : r) : g := e.h h
class AtC (E : En) (i : Nat) (b : outParam B) : Prop where h : AtR E i b
instance {b : B} {l : En} : AtC (some b :: l) 0 b := ⟨.z⟩
instance {b : B} {l : En} {x : Option B} {i : Nat} [h : AtC l i b] : AtC (x :: l) (i + 1) b := ⟨.s h.h⟩
class SetC (E : En) (i : Nat) (y : Option B) (E' : outParam En) : Prop where h : SetR E i y E'
instance {x y : Option B} {l : En} : SetC (x :: l) 0 y (y :: l) := ⟨.z⟩
instance {l l' : En} {i : Nat} {x y : Option B} [h : SetC l i y l'] : SetC (x :: l) (i + 1) y (x :: l') := ⟨.s h.h⟩
class DtC (b : B) (d : outParam D) : Prop where h : b.d = d
instance {d : D} : DtC (.dat d) d := ⟨rfl⟩
instance {d : D} : DtC (.own d) d := ⟨rfl⟩
instance {a : Addr} {d : D} : DtC (.par a d) d := ⟨rfl⟩
class GetC (E : En) (o : Opn) (d : outParam D) : Prop where h : o.get E = some d
instance {E : En} {d : D} : GetC E (.val d) d := ⟨rfl⟩
instance {E : En} {i : Nat} {b : B} {d : D} [a : AtC E i b] [c : DtC b d] : GetC E (.slot i) d := ⟨by simp only [Opn.get, a.h.eq]; rw [c.h]⟩
def truV (x : D) (E : En) (Q : Bool → En → Prop) : Prop := truOk x ∧ Q (truD x) E
/-- as sSeq, where ways meet -/
def sJ (a b : WS) : WS := sSeq a b
theorem truK_of {o : Opn} {x : D} {E : En} {Q : Bool → En → Prop} (g : o.get E = some x) (h : truV x E Q) : truK o E Q := by unfold truK; rw [g]; exact h
def subK3 (i : Nat) (b : B) (v k : D) (E : En) (nx : En → Prop) : Prop := b.mu = true ∧ setD b.d k v fun new => nx (E.set i (some (b.put new)))
theorem subK2_of {i : Nat} {v k bb : B} {x y : D} {E : En} {nx : En → Prop} (a : AtR E i bb) (d1 : k.d = x) (d2 : v.d = y) (h : subK3 i bb y x E nx) : subK2 i v k E nx := by unfold subK2; rw [a.eq, d1, d2]; exact h
theorem subK3_o {i : Nat} {z y x : D} {E : En} {nx : En → Prop} (h : setD z x y fun new => putK i (.own z) new E nx) : subK3 i (.own z) y x E nx := ⟨rfl, h⟩
theorem subK3_p {i : Nat} {p : Addr} {z y x : D} {E : En} {nx : En → Prop} (h : setD z x y fun new => putK i (.par p z) new E nx) : subK3 i (.par p z) y x E nx := ⟨rfl, h⟩
section
variable {E E' : En} {nx bk ct : En → Prop} {rt : B → En → Prop} {a b c : WS} {w wa wb we : WE} {i j : Nat} {Q : B → En → Prop} {QO : Opn → En → Prop} {QT : Bool → En → Prop} {QA : List D → En → Prop} {t u : WT}
  {oa ob : WO} {o o2 : Opn} {x y : D} {bb : B} {P : B → Prop} {A C : Prop} {r : WA} {wr : D → D → (B → Prop) → Prop} {w1 : D → (B → Prop) → Prop} {R : Prop}
instance (priority := 10) {p : Prop} : Ev p p := ⟨id⟩
theorem ev_ite {p : Prop} {_i : Decidable p} {RA RC : Prop} [a : Ev A RA] [c : Ev C RC] (h : p → RA) (h' : ¬ p → RC) : if decide p = true then A else C := x_iteD (fun q => a.h (h q)) fun q => c.h (h' q)
theorem ev_iteN {p : Prop} {_i : Decidable p} {RA RC : Prop} [a : Ev A RA] [c : Ev C RC] (h : ¬ p → RA) (h' : p → RC) : if (!decide p) = true then A else C := x_iteN (fun q => a.h (h q)) fun q => c.h (h' q)
theorem ev_iteB {k : Bool} {RA RC : Prop} [a : Ev A RA] [c : Ev C RC] (h : k = true → RA) (h' : k = false → RC) : if k = true then A else C := x_iteB (fun q => a.h (h q)) fun q => c.h (h' q)
theorem ev_iteM {k : Bool} {RA RC : Prop} [a : Ev A RA] [c : Ev C RC] (h : k = false → RA) (h' : k = true → RC) : if (!k) = true then A else C := x_iteM (fun q => a.h (h q)) fun q => c.h (h' q)
/-- ways that meet: M holds behind a -/
theorem x_join (M : En → Prop) (h1 : ∀ nx' : En → Prop, (∀ E', M E' → nx' E') → a ⟨nx', rt, bk, ct⟩ E) (h2 : ∀ E', M E' → b ⟨nx, rt, bk, ct⟩ E') : sJ a b ⟨nx, rt, bk, ct⟩ E := h1 _ h2
instance  [e : Ev (a ⟨b ⟨nx, rt, bk, ct⟩, rt, bk, ct⟩ E) R] : Ev (sSeq a b ⟨nx, rt, bk, ct⟩ E) (R) := ⟨fun h => x_seq (e.h h)⟩
instance  [e : Ev (w E fun bb E1 => setK i bb E1 nx) R] : Ev (sSet i w ⟨nx, rt, bk, ct⟩ E) (R) := ⟨fun h => x_set (e.h h)⟩
instance [s : SetC E i (some bb) E'] [e : Ev (nx E') R] : Ev (setK i bb E nx) (R) := ⟨fun h => x_setK s.h (e.h h)⟩
instance  [e : Ev (nx E) R] : Ev (sNext ⟨nx, rt, bk, ct⟩ E) (R) := ⟨fun h => x_next (e.h h)⟩
instance  [e : Ev (bk E) R] : Ev (sBreak ⟨nx, rt, bk, ct⟩ E) (R) := ⟨fun h => x_break (e.h h)⟩
instance  [e : Ev (ct E) R] : Ev (sCont ⟨nx, rt, bk, ct⟩ E) (R) := ⟨fun h => x_cont (e.h h)⟩
instance  [e : Ev (w E rt) R] : Ev (sRet w ⟨nx, rt, bk, ct⟩ E) (R) := ⟨fun h => x_ret (e.h h)⟩
instance  [e : Ev (rt (.dat .non) E) R] : Ev (sRetN ⟨nx, rt, bk, ct⟩ E) (R) := ⟨fun h => x_retN (e.h h)⟩
instance  [e : Ev (w E fun _ E1 => nx E1) R] : Ev (sExpr w ⟨nx, rt, bk, ct⟩ E) (R) := ⟨fun h => x_expr (e.h h)⟩
instance  [e : Ev (t E fun k E1 => if k = true then a ⟨nx, rt, bk, ct⟩ E1 else b ⟨nx, rt, bk, ct⟩ E1) R] : Ev (sIf t a b ⟨nx, rt, bk, ct⟩ E) (R) := ⟨fun h => x_if (e.h h)⟩
instance  [e : Ev (r E fun ds E1 => parK i j ds E1 nx) R] : Ev (sPar i j r ⟨nx, rt, bk, ct⟩ E) (R) := ⟨fun h => x_par (e.h h)⟩
instance {E'' : En} [s : SetC E i (some (.dat x)) E'] [s2 : SetC E' j (some (.dat y)) E''] [e : Ev (nx E'') R] : Ev (parK i j [x, y] E nx) (R) := ⟨fun h => x_parK s.h s2.h (e.h h)⟩
instance {l : Nat}  [e : Ev (r E fun ds E1 => par3K i j l ds E1 nx) R] : Ev (sPar3 i j l r ⟨nx, rt, bk, ct⟩ E) (R) := ⟨fun h => x_par3 (e.h h)⟩
instance {l : Nat} {z : D} {E'' E3 : En} [s : SetC E i (some (.dat x)) E'] [s2 : SetC E' j (some (.dat y)) E''] [s3 : SetC E'' l (some (.dat z)) E3] [e : Ev (nx E3) R] : Ev (par3K i j l [x, y, z] E nx) (R) := ⟨fun h => x_par3K s.h s2.h s3.h (e.h h)⟩
instance {g : WG}  [e : Ev (w E fun b E1 => asgK g b E1 nx) R] : Ev (sAsg w g ⟨nx, rt, bk, ct⟩ E) (R) := ⟨fun h => x_asg (e.h h)⟩
instance {g : WG} [d : DtC bb x] [e : Ev (g x E nx) R] : Ev (asgK g bb E nx) (R) := ⟨fun h => by unfold asgK; rw [d.h]; exact e.h h⟩
instance [s : SetC E i (some (.dat x)) E'] [e : Ev (nx E') R] : Ev (gN i x E nx) (R) := ⟨fun h => x_gN s.h (e.h h)⟩
instance {ws : WGs} {y0 : D}  [e : Ev (ws [y0] E nx) R] : Ev (gT 1 ws (.tup [y0]) E nx) (R) := ⟨fun h => x_gT rfl (e.h h)⟩
instance {ws : WGs} {y0 y1 : D}  [e : Ev (ws [y0, y1] E nx) R] : Ev (gT 2 ws (.tup [y0, y1]) E nx) (R) := ⟨fun h => x_gT rfl (e.h h)⟩
instance {ws : WGs} {y0 y1 y2 : D}  [e : Ev (ws [y0, y1, y2] E nx) R] : Ev (gT 3 ws (.tup [y0, y1, y2]) E nx) (R) := ⟨fun h => x_gT rfl (e.h h)⟩
instance {ws : WGs} {y0 y1 y2 y3 : D}  [e : Ev (ws [y0, y1, y2, y3] E nx) R] : Ev (gT 4 ws (.tup [y0, y1, y2, y3]) E nx) (R) := ⟨fun h => x_gT rfl (e.h h)⟩
instance {ws : WGs} {y0 y1 y2 y3 y4 : D}  [e : Ev (ws [y0, y1, y2, y3, y4] E nx) R] : Ev (gT 5 ws (.tup [y0, y1, y2, y3, y4]) E nx) (R) := ⟨fun h => x_gT rfl (e.h h)⟩
instance {ws : WGs} {y0 y1 y2 y3 y4 y5 : D}  [e : Ev (ws [y0, y1, y2, y3, y4, y5] E nx) R] : Ev (gT 6 ws (.tup [y0, y1, y2, y3, y4, y5]) E nx) (R) := ⟨fun h => x_gT rfl (e.h h)⟩
instance  [e : Ev (nx E) R] : Ev (gsN [] E nx) (R) := ⟨fun h => x_gsN (e.h h)⟩
instance {g : WG} {ws : WGs} {l : List D}  [e : Ev (g x E fun E1 => ws l E1 nx) R] : Ev (gsC g ws (x :: l) E nx) (R) := ⟨fun h => x_gsC (e.h h)⟩
instance {wi : WI} {g : WG}  [e : Ev (wi E fun ds E1 => forK g a ⟨nx, rt, bk, ct⟩ ds E1) R] : Ev (sFor wi g a ⟨nx, rt, bk, ct⟩ E) (R) := ⟨fun h => x_for (e.h h)⟩
instance  [e : Ev (we E fun v E1 => subK i wa v E1 nx) R] : Ev (sSub i wa we ⟨nx, rt, bk, ct⟩ E) (R) := ⟨fun h => x_sub (e.h h)⟩
instance {v : B} [at_ : AtC E i bb] [e : Ev (wa E fun k E2 => subK2 i v k E2 nx) R] : Ev (subK i wa v E nx) (R) := ⟨fun h => x_subK at_.h (e.h h)⟩
instance {v k : B} [at_ : AtC E i bb] [d1 : DtC k x] [d2 : DtC v y] [e : Ev (subK3 i bb y x E nx) R] : Ev (subK2 i v k E nx) (R) := ⟨fun h => subK2_of at_.h d1.h d2.h (e.h h)⟩
instance {z : D}  [e : Ev (setD z x y fun new => putK i (.own z) new E nx) R] : Ev (subK3 i (.own z) y x E nx) (R) := ⟨fun h => subK3_o (e.h h)⟩
instance {z : D} {p : Addr}  [e : Ev (setD z x y fun new => putK i (.par p z) new E nx) R] : Ev (subK3 i (.par p z) y x E nx) (R) := ⟨fun h => subK3_p (e.h h)⟩
instance {QE : En → Prop} [s : SetC E i (some (.own y)) E'] [e : Ev (QE E') R] : Ev (putK i (.own x) y E QE) (R) := ⟨fun h => x_putKo s.h (e.h h)⟩
instance {QE : En → Prop} {p : Addr} [s : SetC E i (some (.par p y)) E'] [e : Ev (QE E') R] : Ev (putK i (.par p x) y E QE) (R) := ⟨fun h => x_putKp s.h (e.h h)⟩
instance {p : Addr} {l : En} {PP : B → D → Prop}  [e : Ev (PP bb x) R] : Ev (endP p PP bb (some (.par p x) :: l)) (R) := ⟨fun h => x_end (e.h h)⟩
instance {tt : Bool} {kd : List (D × D)} {N : D → Prop}  [e : Ev (N (.dct tt (putD kd x y))) R] : Ev (setD (.dct tt kd) x y N) (keyOk tt x = true ∧ kd.length < 16777216 ∧ R) := ⟨fun h => x_setd h.1 h.2.1 (e.h h.2.2)⟩
instance  [e : Ev (A) R] : Ev (if true = true then A else C) (R) := ⟨fun h => x_iteT (e.h h)⟩
instance  [e : Ev (C) R] : Ev (if false = true then A else C) (R) := ⟨fun h => x_iteF (e.h h)⟩
instance  [e : Ev (C) R] : Ev (if (!true) = true then A else C) (R) := ⟨fun h => x_iteNT (e.h h)⟩
instance  [e : Ev (A) R] : Ev (if (!false) = true then A else C) (R) := ⟨fun h => x_iteNF (e.h h)⟩
instance  [e : Ev (A) R] : Ev (if (true == true) = true then A else C) (R) := ⟨fun h => e.h h⟩
instance  [e : Ev (C) R] : Ev (if (false == true) = true then A else C) (R) := ⟨fun h => e.h h⟩
instance  [e : Ev (C) R] : Ev (if (!(true == true)) = true then A else C) (R) := ⟨fun h => e.h h⟩
instance  [e : Ev (A) R] : Ev (if (!(false == true)) = true then A else C) (R) := ⟨fun h => e.h h⟩
instance  [e : Ev (C) R] : Ev (if (true == false) = true then A else C) (R) := ⟨fun h => e.h h⟩
instance  [e : Ev (A) R] : Ev (if (false == false) = true then A else C) (R) := ⟨fun h => e.h h⟩
instance  [e : Ev (A) R] : Ev (if (!(true == false)) = true then A else C) (R) := ⟨fun h => e.h h⟩
instance  [e : Ev (C) R] : Ev (if (!(false == false)) = true then A else C) (R) := ⟨fun h => e.h h⟩
instance  [e : Ev (w E fun b E1 => tstK b E1 QT) R] : Ev (wTst w E QT) (R) := ⟨fun h => x_tst (e.h h)⟩
instance {k : Bool}  [e : Ev (QT k E) R] : Ev (tstK (.dat (.bl k)) E QT) (R) := ⟨fun h => x_tstK (e.h h)⟩
instance  [e : Ev (t E fun k E1 => if k = true then u E1 QT else QT false E1) R] : Ev (wAnd t u E QT) (R) := ⟨fun h => x_and (e.h h)⟩
instance  [e : Ev (t E fun k E1 => if k = true then QT true E1 else u E1 QT) R] : Ev (wOr t u E QT) (R) := ⟨fun h => x_or (e.h h)⟩
instance  [e : Ev (t E fun k E1 => QT (!k) E1) R] : Ev (wNot t E QT) (R) := ⟨fun h => x_not (e.h h)⟩
instance  [e : Ev (oa E fun o E1 => truK o E1 QT) R] : Ev (wTru oa E QT) (R) := ⟨fun h => x_tru (e.h h)⟩
instance [g : GetC E o x] [e : Ev (truV x E QT) R] : Ev (truK o E QT) (R) := ⟨fun h => truK_of g.h (e.h h)⟩
instance {l : List D}  [e : Ev (QT (!l.isEmpty) E) R] : Ev (truV (.lst l) E QT) (R) := ⟨fun h => ⟨trivial, e.h h⟩⟩
instance {l : List D}  [e : Ev (QT (!l.isEmpty) E) R] : Ev (truV (.tup l) E QT) (R) := ⟨fun h => ⟨trivial, e.h h⟩⟩
instance {k : Bool}  [e : Ev (QT k E) R] : Ev (truV (.bl k) E QT) (R) := ⟨fun h => ⟨trivial, e.h h⟩⟩
instance  [e : Ev (QT false E) R] : Ev (truV .non E QT) (R) := ⟨fun h => ⟨trivial, e.h h⟩⟩
instance {kd : List (D × D)}  [e : Ev (QT (!kd.isEmpty) E) R] : Ev (truV (.dct false kd) E QT) (R) := ⟨fun h => ⟨rfl, e.h h⟩⟩
instance {n : Int}  [e : Ev (QT (n != 0) E) R] : Ev (truV (.int n) E QT) (R) := ⟨fun h => ⟨trivial, e.h h⟩⟩
instance {s : List Nat}  [e : Ev (QT ((s.length : Int) != 0) E) R] : Ev (truV (.str s) E QT) (s.length ≤ 16777216 ∧ R) := ⟨fun h => ⟨h.1, e.h h.2⟩⟩
instance  [e : Ev (Q (.dat x) E) R] : Ev (wC x E Q) (R) := ⟨fun h => x_C (e.h h)⟩
class EvV (i : Nat) (b : B) (E : En) (Q : B → En → Prop) (res : outParam Prop) : Prop where h : AtR E i b → res → wV i E Q
class EvM (i : Nat) (b : B) (E : En) (Q : B → En → Prop) (res : outParam Prop) : Prop where h : AtR E i b → res → wM i E Q
class EvO (i : Nat) (b : B) (E : En) (QO : Opn → En → Prop) (res : outParam Prop) : Prop where h : AtR E i b → res → oV i E QO
instance [e : Ev (Q (.dat x) E) R] : EvV i (.dat x) E Q R := ⟨fun a h => x_Vd a (e.h h)⟩
instance [s : SetC E i (some (.dat x)) E'] [e : Ev (Q (.dat x) E') R] : EvV i (.own x) E Q R := ⟨fun a h => x_Vo a s.h (e.h h)⟩
instance [e : Ev (Q (.dat x) E) R] : EvM i (.dat x) E Q R := ⟨fun a h => x_Md a (e.h h)⟩
instance [s : SetC E i none E'] [e : Ev (Q (.own x) E') R] : EvM i (.own x) E Q R := ⟨fun a h => x_Mo a s.h (e.h h)⟩
instance [e : Ev (QO (.val x) E) R] : EvO i (.dat x) E QO R := ⟨fun a h => x_oVd a (e.h h)⟩
instance [e : Ev (QO (.slot i) E) R] : EvO i (.own x) E QO R := ⟨fun a h => x_oVo a (e.h h)⟩
instance {p : Addr} [e : Ev (QO (.slot i) E) R] : EvO i (.par p x) E QO R := ⟨fun a h => x_oVp a (e.h h)⟩
instance [a : AtC E i bb] [e : EvV i bb E Q R] : Ev (wV i E Q) R := ⟨fun h => e.h a.h h⟩
instance [a : AtC E i bb] [e : EvM i bb E Q R] : Ev (wM i E Q) R := ⟨fun h => e.h a.h h⟩
instance [a : AtC E i bb] [e : EvO i bb E QO R] : Ev (oV i E QO) R := ⟨fun h => e.h a.h h⟩
instance  [e : Ev (w E fun b E1 => valK b E1 QO) R] : Ev (oE w E QO) (R) := ⟨fun h => x_oE (e.h h)⟩
instance [d : DtC bb x] [e : Ev (QO (.val x) E) R] : Ev (valK bb E QO) (R) := ⟨fun h => by unfold valK; rw [d.h]; exact e.h h⟩
instance  [e : Ev (oa E fun o E1 => ob E1 fun o2 E2 => opK wr o o2 E2 Q) R] : Ev (wOp wr oa ob E Q) (R) := ⟨fun h => x_op (e.h h)⟩
instance [g : GetC E o x] [g2 : GetC E o2 y] [e : Ev (wr x y fun b => Q b E) R] : Ev (opK wr o o2 E Q) (R) := ⟨fun h => by unfold opK; rw [g.h, g2.h]; exact e.h h⟩
instance  [e : Ev (oa E fun o E1 => unK w1 o E1 Q) R] : Ev (wUn w1 oa E Q) (R) := ⟨fun h => x_un (e.h h)⟩
instance [g : GetC E o x] [e : Ev (w1 x fun b => Q b E) R] : Ev (unK w1 o E Q) (R) := ⟨fun h => by unfold unK; rw [g.h]; exact e.h h⟩
instance  [e : Ev (t E fun k E1 => if k = true then wa E1 Q else wb E1 Q) R] : Ev (wIf t wa wb E Q) (R) := ⟨fun h => x_ifE (e.h h)⟩
instance  [e : Ev (wa E fun b E1 => andK wb b E1 Q) R] : Ev (wAndV wa wb E Q) (R) := ⟨fun h => x_andV (e.h h)⟩
instance  [e : Ev (wa E fun b E1 => orK wb b E1 Q) R] : Ev (wOrV wa wb E Q) (R) := ⟨fun h => x_orV (e.h h)⟩
instance  [e : Ev (wa E fun b E1 => notK b E1 Q) R] : Ev (wNotV wa E Q) (R) := ⟨fun h => x_notV (e.h h)⟩
instance {k : Bool}  [e : Ev (if k = true then we E Q else Q (.dat (.bl false)) E) R] : Ev (andK we (.dat (.bl k)) E Q) (R) := ⟨fun h => x_andK (e.h h)⟩
instance {k : Bool}  [e : Ev (if k = true then Q (.dat (.bl true)) E else we E Q) R] : Ev (orK we (.dat (.bl k)) E Q) (R) := ⟨fun h => x_orK (e.h h)⟩
instance {k : Bool}  [e : Ev (Q (.dat (.bl (!k))) E) R] : Ev (notK (.dat (.bl k)) E Q) (R) := ⟨fun h => x_notK (e.h h)⟩
instance  [e : Ev (QA [] E) R] : Ev (aN E QA) (R) := ⟨fun h => x_aN (e.h h)⟩
instance  [e : Ev (w E fun b E1 => acK b r E1 QA) R] : Ev (aC w r E QA) (R) := ⟨fun h => x_aC (e.h h)⟩
instance [d : DtC bb x] [e : Ev (r E fun ds E2 => QA (x :: ds) E2) R] : Ev (acK bb r E QA) (R) := ⟨fun h => by unfold acK; rw [d.h]; exact e.h h⟩
instance  [e : Ev (r E fun ds E1 => tupK ds E1 Q) R] : Ev (wTup r E Q) (R) := ⟨fun h => x_tup (e.h h)⟩
instance  [e : Ev (r E fun ds E1 => lstK ds E1 Q) R] : Ev (wLst r E Q) (R) := ⟨fun h => x_lst (e.h h)⟩
instance  [e : Ev (Q (.dat (.tup [])) E) R] : Ev (tupK [] E Q) (R) := ⟨fun h => x_tupK (by show _ ≤ _; exact Nat.le_of_ble_eq_true rfl) (e.h h)⟩
instance  [e : Ev (Q (.own (.lst [])) E) R] : Ev (lstK [] E Q) (R) := ⟨fun h => x_lstK (by show _ ≤ _; exact Nat.le_of_ble_eq_true rfl) (e.h h)⟩
instance {y0 : D}  [e : Ev (Q (.dat (.tup [y0])) E) R] : Ev (tupK [y0] E Q) (R) := ⟨fun h => x_tupK (by show _ ≤ _; exact Nat.le_of_ble_eq_true rfl) (e.h h)⟩
instance {y0 : D}  [e : Ev (Q (.own (.lst [y0])) E) R] : Ev (lstK [y0] E Q) (R) := ⟨fun h => x_lstK (by show _ ≤ _; exact Nat.le_of_ble_eq_true rfl) (e.h h)⟩
instance {y0 y1 : D}  [e : Ev (Q (.dat (.tup [y0, y1])) E) R] : Ev (tupK [y0, y1] E Q) (R) := ⟨fun h => x_tupK (by show _ ≤ _; exact Nat.le_of_ble_eq_true rfl) (e.h h)⟩
instance {y0 y1 : D}  [e : Ev (Q (.own (.lst [y0, y1])) E) R] : Ev (lstK [y0, y1] E Q) (R) := ⟨fun h => x_lstK (by show _ ≤ _; exact Nat.le_of_ble_eq_true rfl) (e.h h)⟩
instance {y0 y1 y2 : D}  [e : Ev (Q (.dat (.tup [y0, y1, y2])) E) R] : Ev (tupK [y0, y1, y2] E Q) (R) := ⟨fun h => x_tupK (by show _ ≤ _; exact Nat.le_of_ble_eq_true rfl) (e.h h)⟩
instance {y0 y1 y2 : D}  [e : Ev (Q (.own (.lst [y0, y1, y2])) E) R] : Ev (lstK [y0, y1, y2] E Q) (R) := ⟨fun h => x_lstK (by show _ ≤ _; exact Nat.le_of_ble_eq_true rfl) (e.h h)⟩
instance {y0 y1 y2 y3 : D}  [e : Ev (Q (.dat (.tup [y0, y1, y2, y3])) E) R] : Ev (tupK [y0, y1, y2, y3] E Q) (R) := ⟨fun h => x_tupK (by show _ ≤ _; exact Nat.le_of_ble_eq_true rfl) (e.h h)⟩
instance {y0 y1 y2 y3 : D}  [e : Ev (Q (.own (.lst [y0, y1, y2, y3])) E) R] : Ev (lstK [y0, y1, y2, y3] E Q) (R) := ⟨fun h => x_lstK (by show _ ≤ _; exact Nat.le_of_ble_eq_true rfl) (e.h h)⟩
instance {y0 y1 y2 y3 y4 : D}  [e : Ev (Q (.dat (.tup [y0, y1, y2, y3, y4])) E) R] : Ev (tupK [y0, y1, y2, y3, y4] E Q) (R) := ⟨fun h => x_tupK (by show _ ≤ _; exact Nat.le_of_ble_eq_true rfl) (e.h h)⟩
instance {y0 y1 y2 y3 y4 : D}  [e : Ev (Q (.own (.lst [y0, y1, y2, y3, y4])) E) R] : Ev (lstK [y0, y1, y2, y3, y4] E Q) (R) := ⟨fun h => x_lstK (by show _ ≤ _; exact Nat.le_of_ble_eq_true rfl) (e.h h)⟩
instance {y0 y1 y2 y3 y4 y5 : D}  [e : Ev (Q (.dat (.tup [y0, y1, y2, y3, y4, y5])) E) R] : Ev (tupK [y0, y1, y2, y3, y4, y5] E Q) (R) := ⟨fun h => x_tupK (by show _ ≤ _; exact Nat.le_of_ble_eq_true rfl) (e.h h)⟩
instance {y0 y1 y2 y3 y4 y5 : D}  [e : Ev (Q (.own (.lst [y0, y1, y2, y3, y4, y5])) E) R] : Ev (lstK [y0, y1, y2, y3, y4, y5] E Q) (R) := ⟨fun h => x_lstK (by show _ ≤ _; exact Nat.le_of_ble_eq_true rfl) (e.h h)⟩
instance {y0 y1 y2 y3 y4 y5 y6 : D}  [e : Ev (Q (.dat (.tup [y0, y1, y2, y3, y4, y5, y6])) E) R] : Ev (tupK [y0, y1, y2, y3, y4, y5, y6] E Q) (R) := ⟨fun h => x_tupK (by show _ ≤ _; exact Nat.le_of_ble_eq_true rfl) (e.h h)⟩
instance {y0 y1 y2 y3 y4 y5 y6 : D}  [e : Ev (Q (.own (.lst [y0, y1, y2, y3, y4, y5, y6])) E) R] : Ev (lstK [y0, y1, y2, y3, y4, y5, y6] E Q) (R) := ⟨fun h => x_lstK (by show _ ≤ _; exact Nat.le_of_ble_eq_true rfl) (e.h h)⟩
instance {y0 y1 y2 y3 y4 y5 y6 y7 : D}  [e : Ev (Q (.dat (.tup [y0, y1, y2, y3, y4, y5, y6, y7])) E) R] : Ev (tupK [y0, y1, y2, y3, y4, y5, y6, y7] E Q) (R) := ⟨fun h => x_tupK (by show _ ≤ _; exact Nat.le_of_ble_eq_true rfl) (e.h h)⟩
instance {y0 y1 y2 y3 y4 y5 y6 y7 : D}  [e : Ev (Q (.own (.lst [y0, y1, y2, y3, y4, y5, y6, y7])) E) R] : Ev (lstK [y0, y1, y2, y3, y4, y5, y6, y7] E Q) (R) := ⟨fun h => x_lstK (by show _ ≤ _; exact Nat.le_of_ble_eq_true rfl) (e.h h)⟩
instance {y0 y1 y2 y3 y4 y5 y6 y7 y8 : D}  [e : Ev (Q (.dat (.tup [y0, y1, y2, y3, y4, y5, y6, y7, y8])) E) R] : Ev (tupK [y0, y1, y2, y3, y4, y5, y6, y7, y8] E Q) (R) := ⟨fun h => x_tupK (by show _ ≤ _; exact Nat.le_of_ble_eq_true rfl) (e.h h)⟩
instance {y0 y1 y2 y3 y4 y5 y6 y7 y8 : D}  [e : Ev (Q (.own (.lst [y0, y1, y2, y3, y4, y5, y6, y7, y8])) E) R] : Ev (lstK [y0, y1, y2, y3, y4, y5, y6, y7, y8] E Q) (R) := ⟨fun h => x_lstK (by show _ ≤ _; exact Nat.le_of_ble_eq_true rfl) (e.h h)⟩
instance {fs : FS}  [e : Ev (r E fun ds E1 => fs ds fun b => Q b E1) R] : Ev (wCall fs r E Q) (R) := ⟨fun h => x_call (e.h h)⟩
instance {f : (B → Prop) → Prop}  [e : Ev (f  P) R] : Ev (fs0 f [] P) (R) := ⟨fun h => x_fs0 (e.h h)⟩
instance {f : D → (B → Prop) → Prop} {d0 : D}  [e : Ev (f d0 P) R] : Ev (fs1 f [d0] P) (R) := ⟨fun h => x_fs1 (e.h h)⟩
instance {f : D → D → (B → Prop) → Prop} {d0 d1 : D}  [e : Ev (f d0 d1 P) R] : Ev (fs2 f [d0, d1] P) (R) := ⟨fun h => x_fs2 (e.h h)⟩
instance {f : D → D → D → (B → Prop) → Prop} {d0 d1 d2 : D}  [e : Ev (f d0 d1 d2 P) R] : Ev (fs3 f [d0, d1, d2] P) (R) := ⟨fun h => x_fs3 (e.h h)⟩
instance {f : D → D → D → D → (B → Prop) → Prop} {d0 d1 d2 d3 : D}  [e : Ev (f d0 d1 d2 d3 P) R] : Ev (fs4 f [d0, d1, d2, d3] P) (R) := ⟨fun h => x_fs4 (e.h h)⟩
instance {f : D → D → D → D → D → (B → Prop) → Prop} {d0 d1 d2 d3 d4 : D}  [e : Ev (f d0 d1 d2 d3 d4 P) R] : Ev (fs5 f [d0, d1, d2, d3, d4] P) (R) := ⟨fun h => x_fs5 (e.h h)⟩
instance {f : D → D → D → D → D → D → (B → Prop) → Prop} {d0 d1 d2 d3 d4 d5 : D}  [e : Ev (f d0 d1 d2 d3 d4 d5 P) R] : Ev (fs6 f [d0, d1, d2, d3, d4, d5] P) (R) := ⟨fun h => x_fs6 (e.h h)⟩
instance {fs : PFS} [a : AtC E i bb] [e : Ev (r E fun ds E1 => cpK i fs ds E1 Q) R] : Ev (wCallP i fs r E Q) (R) := ⟨fun h => x_callP a.h (e.h h)⟩
class EvC (i : Nat) (b : B) (fs : PFS) (ds : List D) (E : En) (Q : B → En → Prop) (res : outParam Prop) : Prop where h : AtR E i b → res → cpK i fs ds E Q
instance {fs : PFS} {ds : List D} [e : Ev (fs x ds fun c d' => putK i (.own x) d' E (Q c)) R] : EvC i (.own x) fs ds E Q R := ⟨fun a h => x_cpKo a (e.h h)⟩
instance {fs : PFS} {ds : List D} {p : Addr} [e : Ev (fs x ds fun c d' => putK i (.par p x) d' E (Q c)) R] : EvC i (.par p x) fs ds E Q R := ⟨fun a h => x_cpKp a (e.h h)⟩
instance {fs : PFS} {ds : List D} [a : AtC E i bb] [e : EvC i bb fs ds E Q R] : Ev (cpK i fs ds E Q) R := ⟨fun h => e.h a.h h⟩
instance {f : D → (B → D → Prop) → Prop} {PP : B → D → Prop}  [e : Ev (f x  PP) R] : Ev (ps0 f x [] PP) (R) := ⟨fun h => x_ps0 (e.h h)⟩
instance {f : D → D → (B → D → Prop) → Prop} {PP : B → D → Prop} {d0 : D}  [e : Ev (f x d0 PP) R] : Ev (ps1 f x [d0] PP) (R) := ⟨fun h => x_ps1 (e.h h)⟩
instance {f : D → D → D → (B → D → Prop) → Prop} {PP : B → D → Prop} {d0 d1 : D}  [e : Ev (f x d0 d1 PP) R] : Ev (ps2 f x [d0, d1] PP) (R) := ⟨fun h => x_ps2 (e.h h)⟩
instance {f : D → D → D → D → (B → D → Prop) → Prop} {PP : B → D → Prop} {d0 d1 d2 : D}  [e : Ev (f x d0 d1 d2 PP) R] : Ev (ps3 f x [d0, d1, d2] PP) (R) := ⟨fun h => x_ps3 (e.h h)⟩
instance {f : D → D → D → D → D → (B → D → Prop) → Prop} {PP : B → D → Prop} {d0 d1 d2 d3 : D}  [e : Ev (f x d0 d1 d2 d3 PP) R] : Ev (ps4 f x [d0, d1, d2, d3] PP) (R) := ⟨fun h => x_ps4 (e.h h)⟩
class EvT (T : String) (i : Nat) (b : B) (m : WM1) (we : WE) (E : En) (Q : B → En → Prop) (res : outParam Prop) : Prop where h : AtR E i b → res → wMut1 T i m we E Q
instance {l : List D} {m : WM1} [e : Ev (we E fun b E1 => mtK i m b E1 Q) R] : EvT "list" i (.own (.lst l)) m we E Q R := ⟨fun a h => x_mut1o a rfl (e.h h)⟩
instance {l : List D} {m : WM1} {p : Addr} [e : Ev (we E fun b E1 => mtK i m b E1 Q) R] : EvT "list" i (.par p (.lst l)) m we E Q R := ⟨fun a h => x_mut1p a rfl (e.h h)⟩
instance {T : String} {m : WM1} [a : AtC E i bb] [e : EvT T i bb m we E Q R] : Ev (wMut1 T i m we E Q) R := ⟨fun h => e.h a.h h⟩
class EvK (i : Nat) (b : B) (m : WM1) (y : D) (E : En) (Q : B → En → Prop) (res : outParam Prop) : Prop where h : AtR E i b → res → mtK i m (.dat y) E Q ∧ mtK i m (.own y) E Q
instance {m : WM1} [e : Ev (m x y fun res new => putK i (.own x) new E (Q (.dat res))) R] : EvK i (.own x) m y E Q R := ⟨fun a h => ⟨x_mtKod a (e.h h), x_mtKoo a (e.h h)⟩⟩
instance {m : WM1} {p : Addr} [e : Ev (m x y fun res new => putK i (.par p x) new E (Q (.dat res))) R] : EvK i (.par p x) m y E Q R := ⟨fun a h => ⟨x_mtKpd a (e.h h), x_mtKpo a (e.h h)⟩⟩
instance {m : WM1} [a : AtC E i bb] [e : EvK i bb m y E Q R] : Ev (mtK i m (.dat y) E Q) R := ⟨fun h => (e.h a.h h).1⟩
instance {m : WM1} [a : AtC E i bb] [e : EvK i bb m y E Q R] : Ev (mtK i m (.own y) E Q) R := ⟨fun h => (e.h a.h h).2⟩
class EvZ (T : String) (i : Nat) (b : B) (m : WM0) (E : En) (Q : B → En → Prop) (res : outParam Prop) : Prop where h : AtR E i b → res → wMut0 T i m E Q
instance {l : List D} {m : WM0} [e : Ev (m (.lst l) fun res new => putK i (.own (.lst l)) new E (Q (.dat res))) R] : EvZ "list" i (.own (.lst l)) m E Q R := ⟨fun a h => x_mut0o a rfl (e.h h)⟩
instance {l : List D} {m : WM0} {p : Addr} [e : Ev (m (.lst l) fun res new => putK i (.par p (.lst l)) new E (Q (.dat res))) R] : EvZ "list" i (.par p (.lst l)) m E Q R := ⟨fun a h => x_mut0p a rfl (e.h h)⟩
instance {T : String} {m : WM0} [a : AtC E i bb] [e : EvZ T i bb m E Q R] : Ev (wMut0 T i m E Q) R := ⟨fun h => e.h a.h h⟩
instance {l : List D} {PM : D → D → Prop}  [e : Ev (PM .non (.lst (l ++ [x]))) R] : Ev (mAppend (.lst l) x PM) (l.length < 16777216 ∧ R) := ⟨fun h => x_append h.1 (e.h h.2)⟩
instance {l m : List D} {PM : D → D → Prop}  [e : Ev (PM .non (.lst (l ++ m))) R] : Ev (mExtend (.lst l) (.lst m) PM) (l.length + m.length ≤ 16777216 ∧ R) := ⟨fun h => x_extend h.1 (e.h h.2)⟩
instance {tt : Bool}  [e : Ev (Q (.own (.dct tt [])) E) R] : Ev (wDct0 tt E Q) (R) := ⟨fun h => e.h h⟩
def dispK (ps : List (D × D)) (E : En) (Q : B → En → Prop) : Prop := (ps.all fun p => keyOk false p.1) = true ∧ ps.length ≤ 15 ∧ Q (.own (.dct false (ps.foldl (fun acc p => putD acc p.1 p.2) []))) E
def pairK2 (r : List (WE × WE)) (k v : B) (E : En) (QP : List (D × D) → En → Prop) : Prop := wPairs r E fun ps E3 => QP ((k.d, v.d) :: ps) E3
def pairK (wv : WE) (r : List (WE × WE)) (k : B) (E : En) (QP : List (D × D) → En → Prop) : Prop := wv E fun v E2 => pairK2 r k v E2 QP
theorem foldl_put : ∀ (ps acc : List (D × D)) , (∀ p ∈ ps, ∀ q ∈ acc, eqD q.1 p.1 = false) → ps.Pairwise (fun p q => eqD p.1 q.1 = false) → ps.foldl (fun acc p => putD acc p.1 p.2) acc = acc ++ ps
  | [], acc, _, _ => by simp
  | p :: ps, acc, h, hp => by
    obtain ⟨h1, h2⟩ := List.pairwise_cons.mp hp
    have e : putD acc p.1 p.2 = acc ++ [p] := by
      unfold putD
      rw [if_neg]
      rw [List.any_eq_true]
      rintro ⟨q, hq, e⟩
      rw [h p List.mem_cons_self q hq] at e; cases e
    rw [List.foldl_cons, e, foldl_put ps _ (fun p' hp' q hq => by
      rcases List.mem_append.mp hq with z | z
      · exact h p' (List.mem_cons_of_mem _ hp') q z
      · rw [List.mem_singleton.mp z]; exact h1 p' hp') h2]
    simp
instance {ws : List (WE × WE)}  [e : Ev (wPairs ws E fun ps E1 => dispK ps E1 Q) R] : Ev (wDisp ws E Q) (R) := ⟨fun h => e.h h⟩
instance {QP : List (D × D) → En → Prop}  [e : Ev (QP [] E) R] : Ev (wPairs [] E QP) (R) := ⟨fun h => e.h h⟩
instance {QP : List (D × D) → En → Prop} {ws : List (WE × WE)}  [e : Ev (wa E fun k E1 => pairK wb ws k E1 QP) R] : Ev (wPairs ((wa, wb) :: ws) E QP) (R) := ⟨fun h => e.h h⟩
instance {QP : List (D × D) → En → Prop} {ws : List (WE × WE)}  [e : Ev (wb E fun v E2 => pairK2 ws bb v E2 QP) R] : Ev (pairK wb ws bb E QP) (R) := ⟨fun h => e.h h⟩
instance {QP : List (D × D) → En → Prop} {ws : List (WE × WE)} {b2 : B} [d1 : DtC bb x] [d2 : DtC b2 y] [e : Ev (wPairs ws E fun ps E3 => QP ((x, y) :: ps) E3) R] : Ev (pairK2 ws bb b2 E QP) (R) := ⟨fun h => by unfold pairK2; rw [d1.h, d2.h]; exact e.h h⟩
instance  [e : Ev (Q (.own (.dct false [(x, y)])) E) R] : Ev (dispK [(x, y)] E Q) (keyOk false x = true ∧ R) := ⟨fun h => ⟨by show (keyOk false x && true) = true; rw [h.1]; rfl, Nat.le_of_ble_eq_true rfl, by show Q (.own (.dct false (putD [] x y))) E; exact e.h h.2⟩⟩
instance {s0 s1 : List Nat} {y0 y1 : D}  [e : Ev (Q (.own (.dct false [(.str s0, y0), (.str s1, y1)])) E) R] : Ev (dispK [(.str s0, y0), (.str s1, y1)] E Q) ([s0, s1].Nodup ∧ R) := ⟨fun h => ⟨rfl, Nat.le_of_ble_eq_true rfl, by rw [foldl_put _ [] (fun _ _ _ hq => by cases hq) (by simpa [List.pairwise_cons, eqD_str, List.nodup_cons] using h.1)]; exact e.h h.2⟩⟩
instance {s0 s1 s2 : List Nat} {y0 y1 y2 : D}  [e : Ev (Q (.own (.dct false [(.str s0, y0), (.str s1, y1), (.str s2, y2)])) E) R] : Ev (dispK [(.str s0, y0), (.str s1, y1), (.str s2, y2)] E Q) ([s0, s1, s2].Nodup ∧ R) := ⟨fun h => ⟨rfl, Nat.le_of_ble_eq_true rfl, by rw [foldl_put _ [] (fun _ _ _ hq => by cases hq) (by simpa [List.pairwise_cons, eqD_str, List.nodup_cons] using h.1)]; exact e.h h.2⟩⟩
instance {s0 s1 s2 s3 : List Nat} {y0 y1 y2 y3 : D}  [e : Ev (Q (.own (.dct false [(.str s0, y0), (.str s1, y1), (.str s2, y2), (.str s3, y3)])) E) R] : Ev (dispK [(.str s0, y0), (.str s1, y1), (.str s2, y2), (.str s3, y3)] E Q) ([s0, s1, s2, s3].Nodup ∧ R) := ⟨fun h => ⟨rfl, Nat.le_of_ble_eq_true rfl, by rw [foldl_put _ [] (fun _ _ _ hq => by cases hq) (by simpa [List.pairwise_cons, eqD_str, List.nodup_cons] using h.1)]; exact e.h h.2⟩⟩
instance {s0 s1 s2 s3 s4 : List Nat} {y0 y1 y2 y3 y4 : D}  [e : Ev (Q (.own (.dct false [(.str s0, y0), (.str s1, y1), (.str s2, y2), (.str s3, y3), (.str s4, y4)])) E) R] : Ev (dispK [(.str s0, y0), (.str s1, y1), (.str s2, y2), (.str s3, y3), (.str s4, y4)] E Q) ([s0, s1, s2, s3, s4].Nodup ∧ R) := ⟨fun h => ⟨rfl, Nat.le_of_ble_eq_true rfl, by rw [foldl_put _ [] (fun _ _ _ hq => by cases hq) (by simpa [List.pairwise_cons, eqD_str, List.nodup_cons] using h.1)]; exact e.h h.2⟩⟩
instance  [e : Ev (w E fun b E1 => itK b E1 QA) R] : Ev (iS w E QA) (R) := ⟨fun h => x_iS (e.h h)⟩
instance {l : List D}  [e : Ev (QA (l) E) R] : Ev (itK (.dat (.lst l)) E QA) (R) := ⟨fun h => x_itKld (e.h h)⟩
instance {l : List D}  [e : Ev (QA (l) E) R] : Ev (itK (.own (.lst l)) E QA) (R) := ⟨fun h => x_itKlo (e.h h)⟩
instance {l : List D}  [e : Ev (QA (l) E) R] : Ev (itK (.dat (.tup l)) E QA) (R) := ⟨fun h => x_itKtd (e.h h)⟩
instance {s : List Nat}  [e : Ev (QA (s.map fun c => D.str [c]) E) R] : Ev (itK (.dat (.str s)) E QA) (R) := ⟨fun h => x_itKsd (e.h h)⟩
instance {s : List Int}  [e : Ev (QA (s.map D.int) E) R] : Ev (itK (.dat (.scr s)) E QA) (R) := ⟨fun h => x_itKc (e.h h)⟩
instance {tt : Bool} {kd : List (D × D)}  [e : Ev (QA (kd.map (·.1)) E) R] : Ev (itK (.dat (.dct tt kd)) E QA) (R) := ⟨fun h => x_itKdd (e.h h)⟩
instance {tt : Bool} {kd : List (D × D)}  [e : Ev (QA (kd.map (·.1)) E) R] : Ev (itK (.own (.dct tt kd)) E QA) (R) := ⟨fun h => x_itKdo (e.h h)⟩
instance  [e : Ev (w E fun b E1 => r1K b E1 QA) R] : Ev (iR1 w E QA) (R) := ⟨fun h => x_iR1 (e.h h)⟩
instance  [e : Ev (wa E fun b E1 => wb E1 fun b2 E2 => r2K b b2 E2 QA) R] : Ev (iR2 wa wb E QA) (R) := ⟨fun h => x_iR2 (e.h h)⟩
instance {n : Int}  [e : Ev (QA (rng 0 n.toNat) E) R] : Ev (r1K (.dat (.int n)) E QA) ((-(2 ^ 62) ≤ n ∧ n < 2 ^ 62) ∧ R) := ⟨fun h => x_r1K h.1 (e.h h.2)⟩
instance {n m : Int}  [e : Ev (QA (rng n (m - n).toNat) E) R] : Ev (r2K (.dat (.int n)) (.dat (.int m)) E QA) ((-(2 ^ 62) ≤ n ∧ n < 2 ^ 62 ∧ -(2 ^ 62) ≤ m ∧ m < 2 ^ 62) ∧ R) := ⟨fun h => x_r2K h.1 (e.h h.2)⟩
instance {wi : WI} {wg : WG} {vs : List Nat}  [e : Ev (wi E fun ds E1 => lcK wg t we vs ds E1 Q) R] : Ev (wLc wi wg t we vs E Q) (R) := ⟨fun h => x_lc (e.h h)⟩
instance  [e : Ev (QT true E) R] : Ev (wYes E QT) (R) := ⟨fun h => e.h h⟩
instance {lo hi : WP}  [e : Ev (oa E fun o E1 => lo E1 fun p E2 => hi E2 fun q E3 => slK o p q E3 Q) R] : Ev (wSlice oa lo hi E Q) (R) := ⟨fun h => x_slice (e.h h)⟩
instance {p q : Option Int} [g : GetC E o x] [e : Ev (wSl x p q fun b => Q b E) R] : Ev (slK o p q E Q) (R) := ⟨fun h => by unfold slK; rw [g.h]; exact e.h h⟩
instance {QP : Option Int → En → Prop}  [e : Ev (QP none E) R] : Ev (pN E QP) (R) := ⟨fun h => x_pN (e.h h)⟩
instance {QP : Option Int → En → Prop}  [e : Ev (w E fun b E1 => psK b E1 QP) R] : Ev (pS w E QP) (R) := ⟨fun h => x_pS (e.h h)⟩
instance {n : Int} {QP : Option Int → En → Prop}  [e : Ev (QP (some n) E) R] : Ev (psK (.dat (.int n)) E QP) (R) := ⟨fun h => x_psK (e.h h)⟩
instance {T : String}  [e : Ev (oa E fun o E1 => m1K T wr ob o E1 Q) R] : Ev (wMt1 T wr oa ob E Q) (R) := ⟨fun h => x_mt1 (e.h h)⟩
instance {T : String}  [e : Ev (oa E fun o E1 => m0K T w1 o E1 Q) R] : Ev (wMt0 T w1 oa E Q) (R) := ⟨fun h => x_mt0 (e.h h)⟩
class TyC (T : String) (d : D) : Prop where h : tyO T (some d)
instance {s : List Nat} : TyC "str" (.str s) := ⟨rfl⟩
instance {l : List D} : TyC "list" (.lst l) := ⟨rfl⟩
instance {l : List Int} : TyC "list" (.scr l) := ⟨rfl⟩
instance {T : String} [g : GetC E o x] [ty : TyC T x] [e : Ev (ob E fun o2 E2 => opK wr o o2 E2 Q) R] : Ev (m1K T wr ob o E Q) (R) := ⟨fun h => ⟨by rw [g.h]; exact ty.h, e.h h⟩⟩
instance {T : String} [g : GetC E o x] [ty : TyC T x] [e : Ev (w1 x fun b => Q b E) R] : Ev (m0K T w1 o E Q) (R) := ⟨fun h => ⟨by rw [g.h]; exact ty.h, by unfold unK; rw [g.h]; exact e.h h⟩⟩
instance {n m : Int}  [e : Ev (P (.dat (.int (n + m)))) R] : Ev (wAdd (.int n) (.int m) P) (R) := ⟨fun h => x_addi (e.h h)⟩
instance {s s2 : List Nat}  [e : Ev (P (.dat (.str (s ++ s2)))) R] : Ev (wAdd (.str s) (.str s2) P) (s.length + s2.length ≤ 16777216 ∧ R) := ⟨fun h => x_adds h.1 (e.h h.2)⟩
instance {l l2 : List D}  [e : Ev (P (.own (.lst (l ++ l2)))) R] : Ev (wAdd (.lst l) (.lst l2) P) (l.length + l2.length ≤ 16777216 ∧ R) := ⟨fun h => x_addl h.1 (e.h h.2)⟩
instance {l l2 : List D}  [e : Ev (P (.dat (.tup (l ++ l2)))) R] : Ev (wAdd (.tup l) (.tup l2) P) (l.length + l2.length ≤ 16777216 ∧ R) := ⟨fun h => x_addt h.1 (e.h h.2)⟩
instance {n m : Int}  [e : Ev (P (.dat (.int (n - m)))) R] : Ev (wSub (.int n) (.int m) P) (R) := ⟨fun h => x_subi (e.h h)⟩
instance {n m : Int}  [e : Ev (P (.dat (.int (n * m)))) R] : Ev (wMulG (.int n) (.int m) P) (MulOk n m ∧ R) := ⟨fun h => x_muli h.1 (e.h h.2)⟩
instance {l : List D} {n : Int}  [e : Ev (P (.own (.lst (List.replicate n.toNat l).flatten))) R] : Ev (wMulG (.lst l) (.int n) P) ((-(2 ^ 63) ≤ n ∧ n < 2 ^ 63 ∧ l.length * n.toNat ≤ 16777216) ∧ R) := ⟨fun h => x_mull h.1 (e.h h.2)⟩
instance {s : List Nat} {n : Int}  [e : Ev (P (.dat (.str (List.replicate n.toNat s).flatten))) R] : Ev (wMulG (.str s) (.int n) P) ((n < 1000000 ∧ -1000000 < n ∧ s.length ≤ 16) ∧ R) := ⟨fun h => x_muls h.1 (e.h h.2)⟩
instance {n m : Int}  [e : Ev (P (.dat (.int (n % m)))) R] : Ev (wMod (.int n) (.int m) P) (0 < m ∧ R) := ⟨fun h => x_modi h.1 (e.h h.2)⟩
instance {n m : Int}  [e : Ev (P (.dat (.int (n / m)))) R] : Ev (wFdiv (.int n) (.int m) P) ((0 < m ∧ m.natAbs < 2 ^ 2000) ∧ R) := ⟨fun h => x_fdiv h.1 (e.h h.2)⟩
instance {n m : Int}  [e : Ev (P (.dat (.int (n ^ m.toNat)))) R] : Ev (wPow (.int n) (.int m) P) ((0 ≤ m ∧ m ≤ 1000000 ∧ n.natAbs < 2 ^ 64) ∧ R) := ⟨fun h => x_powi h.1 (e.h h.2)⟩
instance {n m : Int}  [e : Ev (P (.dat (.int (n * 2 ^ m.toNat)))) R] : Ev (wShl (.int n) (.int m) P) ((0 ≤ m ∧ m ≤ 1000000 ∧ n.natAbs < 2 ^ 64) ∧ R) := ⟨fun h => x_shli h.1 (e.h h.2)⟩
instance {n m : Int}  [e : Ev (P (.dat (.int (Builtin.bitAnd n m)))) R] : Ev (wBand (.int n) (.int m) P) (R) := ⟨fun h => x_bandi (e.h h)⟩
instance {n : Int}  [e : Ev (P (.dat (.int (-n)))) R] : Ev (wNeg (.int n) P) (R) := ⟨fun h => x_negi (e.h h)⟩
instance {n m : Int}  [e : Ev (P (.dat (.bl (decide (n = m))))) R] : Ev (wEq (.int n) (.int m) P) (R) := ⟨fun h => x_eqi (e.h h)⟩
instance {s s2 : List Nat}  [e : Ev (P (.dat (.bl (decide (s = s2))))) R] : Ev (wEq (.str s) (.str s2) P) (R) := ⟨fun h => x_eqs (e.h h)⟩
instance (priority := 500)  [e : Ev (P (.dat (.bl (eqD x y)))) R] : Ev (wEq x y P) (okD x = true ∧ okD y = true ∧ R) := ⟨fun h => x_eq h.1 h.2.1 (e.h h.2.2)⟩
instance {n m : Int}  [e : Ev (P (.dat (.bl (!decide (n = m))))) R] : Ev (wNe (.int n) (.int m) P) (R) := ⟨fun h => x_nei (e.h h)⟩
instance {s s2 : List Nat}  [e : Ev (P (.dat (.bl (!decide (s = s2))))) R] : Ev (wNe (.str s) (.str s2) P) (R) := ⟨fun h => x_nes (e.h h)⟩
instance (priority := 500)  [e : Ev (P (.dat (.bl (!eqD x y)))) R] : Ev (wNe x y P) (okD x = true ∧ okD y = true ∧ R) := ⟨fun h => x_ne h.1 h.2.1 (e.h h.2.2)⟩
instance  [e : Ev (P (.dat (.bl true))) R] : Ev (wEq (.bl true) (.bl true) P) (R) := ⟨fun h => ⟨.inr ⟨rfl, rfl⟩, e.h h⟩⟩
instance  [e : Ev (P (.dat (.bl false))) R] : Ev (wNe (.bl true) (.bl true) P) (R) := ⟨fun h => ⟨.inr ⟨rfl, rfl⟩, e.h h⟩⟩
instance  [e : Ev (P (.dat (.bl false))) R] : Ev (wEq (.bl true) (.bl false) P) (R) := ⟨fun h => ⟨.inr ⟨rfl, rfl⟩, e.h h⟩⟩
instance  [e : Ev (P (.dat (.bl true))) R] : Ev (wNe (.bl true) (.bl false) P) (R) := ⟨fun h => ⟨.inr ⟨rfl, rfl⟩, e.h h⟩⟩
instance  [e : Ev (P (.dat (.bl false))) R] : Ev (wEq (.bl false) (.bl true) P) (R) := ⟨fun h => ⟨.inr ⟨rfl, rfl⟩, e.h h⟩⟩
instance  [e : Ev (P (.dat (.bl true))) R] : Ev (wNe (.bl false) (.bl true) P) (R) := ⟨fun h => ⟨.inr ⟨rfl, rfl⟩, e.h h⟩⟩
instance  [e : Ev (P (.dat (.bl true))) R] : Ev (wEq (.bl false) (.bl false) P) (R) := ⟨fun h => ⟨.inr ⟨rfl, rfl⟩, e.h h⟩⟩
instance  [e : Ev (P (.dat (.bl false))) R] : Ev (wNe (.bl false) (.bl false) P) (R) := ⟨fun h => ⟨.inr ⟨rfl, rfl⟩, e.h h⟩⟩
instance {n m : Int}  [e : Ev (P (.dat (.bl (decide (n < m))))) R] : Ev (wLt (.int n) (.int m) P) (R) := ⟨fun h => x_lti (e.h h)⟩
instance {n m : Int}  [e : Ev (P (.dat (.bl (decide (m < n))))) R] : Ev (wGt (.int n) (.int m) P) (R) := ⟨fun h => x_gti (e.h h)⟩
instance {n m : Int}  [e : Ev (P (.dat (.bl (decide (n ≤ m))))) R] : Ev (wLe (.int n) (.int m) P) (R) := ⟨fun h => x_lei (e.h h)⟩
instance {n m : Int}  [e : Ev (P (.dat (.bl (decide (m ≤ n))))) R] : Ev (wGe (.int n) (.int m) P) (R) := ⟨fun h => x_gei (e.h h)⟩
instance {l l2 : List D}  [e : Ev (P (.dat (.bl (ltD (.tup l) (.tup l2))))) R] : Ev (wLt (.tup l) (.tup l2) P) (cmpOk (.tup l) (.tup l2) ∧ R) := ⟨fun h => x_ltt h.1 (e.h h.2)⟩
instance {l l2 : List D}  [e : Ev (P (.dat (.bl (ltD (.tup l2) (.tup l))))) R] : Ev (wGt (.tup l) (.tup l2) P) (cmpOk (.tup l) (.tup l2) ∧ R) := ⟨fun h => x_gtt h.1 (e.h h.2)⟩
instance {l l2 : List Nat}  [e : Ev (P (.dat (.bl (ltD (.str l) (.str l2))))) R] : Ev (wLt (.str l) (.str l2) P) (okS l ∧ okS l2 ∧ R) := ⟨fun h => x_lts h.1 h.2.1 (e.h h.2.2)⟩
instance {l l2 : List Nat}  [e : Ev (P (.dat (.bl (ltD (.str l2) (.str l))))) R] : Ev (wGt (.str l) (.str l2) P) (okS l ∧ okS l2 ∧ R) := ⟨fun h => x_gts h.1 h.2.1 (e.h h.2.2)⟩
instance  [e : Ev (P (.dat (.bl true))) R] : Ev (wIsN .non .non P) (R) := ⟨fun h => ⟨rfl, e.h h⟩⟩
instance  [e : Ev (P (.dat (.bl false))) R] : Ev (wNotN .non .non P) (R) := ⟨fun h => ⟨rfl, e.h h⟩⟩
instance {n : Int}  [e : Ev (P (.dat (.bl false))) R] : Ev (wIsN (.int n) .non P) (R) := ⟨fun h => ⟨rfl, e.h h⟩⟩
instance {n : Int}  [e : Ev (P (.dat (.bl true))) R] : Ev (wNotN (.int n) .non P) (R) := ⟨fun h => ⟨rfl, e.h h⟩⟩
instance {s : List Nat}  [e : Ev (P (.dat (.bl false))) R] : Ev (wIsN (.str s) .non P) (R) := ⟨fun h => ⟨rfl, e.h h⟩⟩
instance {s : List Nat}  [e : Ev (P (.dat (.bl true))) R] : Ev (wNotN (.str s) .non P) (R) := ⟨fun h => ⟨rfl, e.h h⟩⟩
instance {l : List D}  [e : Ev (P (.dat (.bl false))) R] : Ev (wIsN (.tup l) .non P) (R) := ⟨fun h => ⟨rfl, e.h h⟩⟩
instance {l : List D}  [e : Ev (P (.dat (.bl true))) R] : Ev (wNotN (.tup l) .non P) (R) := ⟨fun h => ⟨rfl, e.h h⟩⟩
instance {l : List D}  [e : Ev (P (.dat (.bl false))) R] : Ev (wIsN (.lst l) .non P) (R) := ⟨fun h => ⟨rfl, e.h h⟩⟩
instance {l : List D}  [e : Ev (P (.dat (.bl true))) R] : Ev (wNotN (.lst l) .non P) (R) := ⟨fun h => ⟨rfl, e.h h⟩⟩
instance {k : Bool}  [e : Ev (P (.dat (.bl false))) R] : Ev (wIsN (.bl k) .non P) (R) := ⟨fun h => ⟨rfl, e.h h⟩⟩
instance {k : Bool}  [e : Ev (P (.dat (.bl true))) R] : Ev (wNotN (.bl k) .non P) (R) := ⟨fun h => ⟨rfl, e.h h⟩⟩
instance {tt : Bool} {kd : List (D × D)}  [e : Ev (P (.dat (.bl false))) R] : Ev (wIsN (.dct tt kd) .non P) (R) := ⟨fun h => ⟨rfl, e.h h⟩⟩
instance {tt : Bool} {kd : List (D × D)}  [e : Ev (P (.dat (.bl true))) R] : Ev (wNotN (.dct tt kd) .non P) (R) := ⟨fun h => ⟨rfl, e.h h⟩⟩
instance (priority := 500)  [e : Ev (P (.dat (.bl (isNon x)))) R] : Ev (wIsN x .non P) (R) := ⟨fun h => ⟨rfl, e.h h⟩⟩
instance (priority := 500)  [e : Ev (P (.dat (.bl (!isNon x)))) R] : Ev (wNotN x .non P) (R) := ⟨fun h => ⟨rfl, e.h h⟩⟩
instance {k k2 : Bool}  [e : Ev (P (.dat (.bl (k == k2)))) R] : Ev (wIsB (.bl k) (.bl k2) P) (R) := ⟨fun h => x_isB (e.h h)⟩
instance {k k2 : Bool}  [e : Ev (P (.dat (.bl (!(k == k2))))) R] : Ev (wNotB (.bl k) (.bl k2) P) (R) := ⟨fun h => x_notB (e.h h)⟩
instance {l : List D}  [e : Ev (P (.dat (.bl (anyD x l)))) R] : Ev (wIn x (.lst l) P) (((flatD x = true ∧ l.all flatD = true) ∨ (okD x = true ∧ okD (.lst l) = true)) ∧ R) := ⟨fun h => x_inl h.1 (e.h h.2)⟩
instance {l : List D}  [e : Ev (P (.dat (.bl (anyD x l)))) R] : Ev (wIn x (.tup l) P) (flatD x = true ∧ l.all flatD = true ∧ R) := ⟨fun h => x_int_ h.1 h.2.1 (e.h h.2.2)⟩
instance {tt : Bool} {kd : List (D × D)}  [e : Ev (P (.dat (.bl ((lookD kd x).isSome)))) R] : Ev (wIn x (.dct tt kd) P) (keyOk tt x = true ∧ R) := ⟨fun h => x_ind h.1 (e.h h.2)⟩
instance {c0 : Nat} {s : List Nat}  [e : Ev (P (.dat (.bl (decide (c0 ∈ s))))) R] : Ev (wIn (.str [c0]) (.str s) P) (R) := ⟨fun h => x_ins (e.h h)⟩
instance {l : List D}  [e : Ev (P (.dat (.bl (!anyD x l)))) R] : Ev (wNin x (.lst l) P) (((flatD x = true ∧ l.all flatD = true) ∨ (okD x = true ∧ okD (.lst l) = true)) ∧ R) := ⟨fun h => x_ninl h.1 (e.h h.2)⟩
instance {l : List D}  [e : Ev (P (.dat (.bl (!anyD x l)))) R] : Ev (wNin x (.tup l) P) (flatD x = true ∧ l.all flatD = true ∧ R) := ⟨fun h => x_nint h.1 h.2.1 (e.h h.2.2)⟩
instance {tt : Bool} {kd : List (D × D)}  [e : Ev (P (.dat (.bl (!(lookD kd x).isSome)))) R] : Ev (wNin x (.dct tt kd) P) (keyOk tt x = true ∧ R) := ⟨fun h => x_nind h.1 (e.h h.2)⟩
instance {c0 : Nat} {s : List Nat}  [e : Ev (P (.dat (.bl (!decide (c0 ∈ s))))) R] : Ev (wNin (.str [c0]) (.str s) P) (R) := ⟨fun h => x_nins (e.h h)⟩
instance {l : List D}  [e : Ev (P (.dat (.int l.length))) R] : Ev (wLen (.lst l) P) (R) := ⟨fun h => x_lenl (e.h h)⟩
instance {l : List D}  [e : Ev (P (.dat (.int l.length))) R] : Ev (wLen (.tup l) P) (R) := ⟨fun h => x_lent (e.h h)⟩
instance {l : List Nat}  [e : Ev (P (.dat (.int l.length))) R] : Ev (wLen (.str l) P) (l.length ≤ 16777216 ∧ R) := ⟨fun h => x_lens h.1 (e.h h.2)⟩
instance {tt : Bool} {l : List (D × D)}  [e : Ev (P (.dat (.int l.length))) R] : Ev (wLen (.dct tt l) P) (R) := ⟨fun h => x_lend (e.h h)⟩
instance {l : List Int}  [e : Ev (P (.dat (.int l.length))) R] : Ev (wLen (.scr l) P) (R) := ⟨fun h => x_lenc (e.h h)⟩
instance {n : Int}  [e : Ev (P (.dat (.int n))) R] : Ev (wInt (.int n) P) (R) := ⟨fun h => x_inti (e.h h)⟩
instance {k : Bool}  [e : Ev (P (.dat (.int (if k = true then 1 else 0)))) R] : Ev (wInt (.bl k) P) (R) := ⟨fun h => x_intb (e.h h)⟩
instance {n m : Int}  [e : Ev (P (.dat (.int (max n m)))) R] : Ev (wMax2 (.int n) (.int m) P) (R) := ⟨fun h => x_max2 (e.h h)⟩
instance {n m : Int}  [e : Ev (P (.dat (.int (min n m)))) R] : Ev (wMin2 (.int n) (.int m) P) (R) := ⟨fun h => x_min2 (e.h h)⟩
instance {l : List D}  [e : Ev (P (.own (.lst l))) R] : Ev (wList (.lst l) P) (R) := ⟨fun h => x_listl (e.h h)⟩
instance {l : List D}  [e : Ev (P (.own (.lst l))) R] : Ev (wList (.tup l) P) (R) := ⟨fun h => x_listt (e.h h)⟩
instance {l : List D}  [e : Ev (P (.dat (.tup l))) R] : Ev (wTuple (.lst l) P) (R) := ⟨fun h => x_tuplel (e.h h)⟩
instance {l : List D}  [e : Ev (P (.dat (.tup l))) R] : Ev (wTuple (.tup l) P) (R) := ⟨fun h => x_tuplet (e.h h)⟩
instance {l : List D}  [e : Ev (P (.own (.lst (l.mergeSort leD)))) R] : Ev (wSorted (.lst l) P) (sortOk l ∧ R) := ⟨fun h => x_sorted h.1 (e.h h.2)⟩
instance {l : List D}  [e : Ev (P (.own (.lst l.reverse))) R] : Ev (wRev (.lst l) P) (R) := ⟨fun h => x_rev (e.h h)⟩
instance  [e : Ev (P (.dat (.bl false))) R] : Ev (wIsi "dict" .non P) (R) := ⟨fun h => (show P (.dat (.bl (isiD "dict" .non))) from (show isiD "dict" .non = false from rfl) ▸ e.h h)⟩
instance {n : Int}  [e : Ev (P (.dat (.bl false))) R] : Ev (wIsi "dict" (.int n) P) (R) := ⟨fun h => (show P (.dat (.bl (isiD "dict" (.int n)))) from (show isiD "dict" (.int n) = false from rfl) ▸ e.h h)⟩
instance {s : List Nat}  [e : Ev (P (.dat (.bl false))) R] : Ev (wIsi "dict" (.str s) P) (R) := ⟨fun h => (show P (.dat (.bl (isiD "dict" (.str s)))) from (show isiD "dict" (.str s) = false from rfl) ▸ e.h h)⟩
instance {l : List D}  [e : Ev (P (.dat (.bl false))) R] : Ev (wIsi "dict" (.tup l) P) (R) := ⟨fun h => (show P (.dat (.bl (isiD "dict" (.tup l)))) from (show isiD "dict" (.tup l) = false from rfl) ▸ e.h h)⟩
instance {l : List D}  [e : Ev (P (.dat (.bl false))) R] : Ev (wIsi "dict" (.lst l) P) (R) := ⟨fun h => (show P (.dat (.bl (isiD "dict" (.lst l)))) from (show isiD "dict" (.lst l) = false from rfl) ▸ e.h h)⟩
instance {k : Bool}  [e : Ev (P (.dat (.bl false))) R] : Ev (wIsi "dict" (.bl k) P) (R) := ⟨fun h => (show P (.dat (.bl (isiD "dict" (.bl k)))) from (show isiD "dict" (.bl k) = false from rfl) ▸ e.h h)⟩
instance {tt : Bool} {kd : List (D × D)}  [e : Ev (P (.dat (.bl true))) R] : Ev (wIsi "dict" (.dct tt kd) P) (R) := ⟨fun h => (show P (.dat (.bl (isiD "dict" (.dct tt kd)))) from (show isiD "dict" (.dct tt kd) = true from rfl) ▸ e.h h)⟩
instance  [e : Ev (P (.dat (.bl false))) R] : Ev (wIsi "list" .non P) (R) := ⟨fun h => (show P (.dat (.bl (isiD "list" .non))) from (show isiD "list" .non = false from rfl) ▸ e.h h)⟩
instance {n : Int}  [e : Ev (P (.dat (.bl false))) R] : Ev (wIsi "list" (.int n) P) (R) := ⟨fun h => (show P (.dat (.bl (isiD "list" (.int n)))) from (show isiD "list" (.int n) = false from rfl) ▸ e.h h)⟩
instance {s : List Nat}  [e : Ev (P (.dat (.bl false))) R] : Ev (wIsi "list" (.str s) P) (R) := ⟨fun h => (show P (.dat (.bl (isiD "list" (.str s)))) from (show isiD "list" (.str s) = false from rfl) ▸ e.h h)⟩
instance {l : List D}  [e : Ev (P (.dat (.bl false))) R] : Ev (wIsi "list" (.tup l) P) (R) := ⟨fun h => (show P (.dat (.bl (isiD "list" (.tup l)))) from (show isiD "list" (.tup l) = false from rfl) ▸ e.h h)⟩
instance {l : List D}  [e : Ev (P (.dat (.bl true))) R] : Ev (wIsi "list" (.lst l) P) (R) := ⟨fun h => (show P (.dat (.bl (isiD "list" (.lst l)))) from (show isiD "list" (.lst l) = true from rfl) ▸ e.h h)⟩
instance {k : Bool}  [e : Ev (P (.dat (.bl false))) R] : Ev (wIsi "list" (.bl k) P) (R) := ⟨fun h => (show P (.dat (.bl (isiD "list" (.bl k)))) from (show isiD "list" (.bl k) = false from rfl) ▸ e.h h)⟩
instance {tt : Bool} {kd : List (D × D)}  [e : Ev (P (.dat (.bl false))) R] : Ev (wIsi "list" (.dct tt kd) P) (R) := ⟨fun h => (show P (.dat (.bl (isiD "list" (.dct tt kd)))) from (show isiD "list" (.dct tt kd) = false from rfl) ▸ e.h h)⟩
instance  [e : Ev (P (.dat (.bl false))) R] : Ev (wIsi "tuple" .non P) (R) := ⟨fun h => (show P (.dat (.bl (isiD "tuple" .non))) from (show isiD "tuple" .non = false from rfl) ▸ e.h h)⟩
instance {n : Int}  [e : Ev (P (.dat (.bl false))) R] : Ev (wIsi "tuple" (.int n) P) (R) := ⟨fun h => (show P (.dat (.bl (isiD "tuple" (.int n)))) from (show isiD "tuple" (.int n) = false from rfl) ▸ e.h h)⟩
instance {s : List Nat}  [e : Ev (P (.dat (.bl false))) R] : Ev (wIsi "tuple" (.str s) P) (R) := ⟨fun h => (show P (.dat (.bl (isiD "tuple" (.str s)))) from (show isiD "tuple" (.str s) = false from rfl) ▸ e.h h)⟩
instance {l : List D}  [e : Ev (P (.dat (.bl true))) R] : Ev (wIsi "tuple" (.tup l) P) (R) := ⟨fun h => (show P (.dat (.bl (isiD "tuple" (.tup l)))) from (show isiD "tuple" (.tup l) = true from rfl) ▸ e.h h)⟩
instance {l : List D}  [e : Ev (P (.dat (.bl false))) R] : Ev (wIsi "tuple" (.lst l) P) (R) := ⟨fun h => (show P (.dat (.bl (isiD "tuple" (.lst l)))) from (show isiD "tuple" (.lst l) = false from rfl) ▸ e.h h)⟩
instance {k : Bool}  [e : Ev (P (.dat (.bl false))) R] : Ev (wIsi "tuple" (.bl k) P) (R) := ⟨fun h => (show P (.dat (.bl (isiD "tuple" (.bl k)))) from (show isiD "tuple" (.bl k) = false from rfl) ▸ e.h h)⟩
instance {tt : Bool} {kd : List (D × D)}  [e : Ev (P (.dat (.bl false))) R] : Ev (wIsi "tuple" (.dct tt kd) P) (R) := ⟨fun h => (show P (.dat (.bl (isiD "tuple" (.dct tt kd)))) from (show isiD "tuple" (.dct tt kd) = false from rfl) ▸ e.h h)⟩
instance  [e : Ev (P (.dat (.bl false))) R] : Ev (wIsi "bool" .non P) (R) := ⟨fun h => (show P (.dat (.bl (isiD "bool" .non))) from (show isiD "bool" .non = false from rfl) ▸ e.h h)⟩
instance {n : Int}  [e : Ev (P (.dat (.bl false))) R] : Ev (wIsi "bool" (.int n) P) (R) := ⟨fun h => (show P (.dat (.bl (isiD "bool" (.int n)))) from (show isiD "bool" (.int n) = false from rfl) ▸ e.h h)⟩
instance {s : List Nat}  [e : Ev (P (.dat (.bl false))) R] : Ev (wIsi "bool" (.str s) P) (R) := ⟨fun h => (show P (.dat (.bl (isiD "bool" (.str s)))) from (show isiD "bool" (.str s) = false from rfl) ▸ e.h h)⟩
instance {l : List D}  [e : Ev (P (.dat (.bl false))) R] : Ev (wIsi "bool" (.tup l) P) (R) := ⟨fun h => (show P (.dat (.bl (isiD "bool" (.tup l)))) from (show isiD "bool" (.tup l) = false from rfl) ▸ e.h h)⟩
instance {l : List D}  [e : Ev (P (.dat (.bl false))) R] : Ev (wIsi "bool" (.lst l) P) (R) := ⟨fun h => (show P (.dat (.bl (isiD "bool" (.lst l)))) from (show isiD "bool" (.lst l) = false from rfl) ▸ e.h h)⟩
instance {k : Bool}  [e : Ev (P (.dat (.bl true))) R] : Ev (wIsi "bool" (.bl k) P) (R) := ⟨fun h => (show P (.dat (.bl (isiD "bool" (.bl k)))) from (show isiD "bool" (.bl k) = true from rfl) ▸ e.h h)⟩
instance {tt : Bool} {kd : List (D × D)}  [e : Ev (P (.dat (.bl false))) R] : Ev (wIsi "bool" (.dct tt kd) P) (R) := ⟨fun h => (show P (.dat (.bl (isiD "bool" (.dct tt kd)))) from (show isiD "bool" (.dct tt kd) = false from rfl) ▸ e.h h)⟩
instance  [e : Ev (P (.dat (.bl false))) R] : Ev (wIsi "str" .non P) (R) := ⟨fun h => (show P (.dat (.bl (isiD "str" .non))) from (show isiD "str" .non = false from rfl) ▸ e.h h)⟩
instance {n : Int}  [e : Ev (P (.dat (.bl false))) R] : Ev (wIsi "str" (.int n) P) (R) := ⟨fun h => (show P (.dat (.bl (isiD "str" (.int n)))) from (show isiD "str" (.int n) = false from rfl) ▸ e.h h)⟩
instance {s : List Nat}  [e : Ev (P (.dat (.bl true))) R] : Ev (wIsi "str" (.str s) P) (R) := ⟨fun h => (show P (.dat (.bl (isiD "str" (.str s)))) from (show isiD "str" (.str s) = true from rfl) ▸ e.h h)⟩
instance {l : List D}  [e : Ev (P (.dat (.bl false))) R] : Ev (wIsi "str" (.tup l) P) (R) := ⟨fun h => (show P (.dat (.bl (isiD "str" (.tup l)))) from (show isiD "str" (.tup l) = false from rfl) ▸ e.h h)⟩
instance {l : List D}  [e : Ev (P (.dat (.bl false))) R] : Ev (wIsi "str" (.lst l) P) (R) := ⟨fun h => (show P (.dat (.bl (isiD "str" (.lst l)))) from (show isiD "str" (.lst l) = false from rfl) ▸ e.h h)⟩
instance {k : Bool}  [e : Ev (P (.dat (.bl false))) R] : Ev (wIsi "str" (.bl k) P) (R) := ⟨fun h => (show P (.dat (.bl (isiD "str" (.bl k)))) from (show isiD "str" (.bl k) = false from rfl) ▸ e.h h)⟩
instance {tt : Bool} {kd : List (D × D)}  [e : Ev (P (.dat (.bl false))) R] : Ev (wIsi "str" (.dct tt kd) P) (R) := ⟨fun h => (show P (.dat (.bl (isiD "str" (.dct tt kd)))) from (show isiD "str" (.dct tt kd) = false from rfl) ▸ e.h h)⟩
instance  [e : Ev (P (.dat (.bl false))) R] : Ev (wIsi "int" .non P) (R) := ⟨fun h => (show P (.dat (.bl (isiD "int" .non))) from (show isiD "int" .non = false from rfl) ▸ e.h h)⟩
instance {n : Int}  [e : Ev (P (.dat (.bl true))) R] : Ev (wIsi "int" (.int n) P) (R) := ⟨fun h => (show P (.dat (.bl (isiD "int" (.int n)))) from (show isiD "int" (.int n) = true from rfl) ▸ e.h h)⟩
instance {s : List Nat}  [e : Ev (P (.dat (.bl false))) R] : Ev (wIsi "int" (.str s) P) (R) := ⟨fun h => (show P (.dat (.bl (isiD "int" (.str s)))) from (show isiD "int" (.str s) = false from rfl) ▸ e.h h)⟩
instance {l : List D}  [e : Ev (P (.dat (.bl false))) R] : Ev (wIsi "int" (.tup l) P) (R) := ⟨fun h => (show P (.dat (.bl (isiD "int" (.tup l)))) from (show isiD "int" (.tup l) = false from rfl) ▸ e.h h)⟩
instance {l : List D}  [e : Ev (P (.dat (.bl false))) R] : Ev (wIsi "int" (.lst l) P) (R) := ⟨fun h => (show P (.dat (.bl (isiD "int" (.lst l)))) from (show isiD "int" (.lst l) = false from rfl) ▸ e.h h)⟩
instance {k : Bool}  [e : Ev (P (.dat (.bl true))) R] : Ev (wIsi "int" (.bl k) P) (R) := ⟨fun h => (show P (.dat (.bl (isiD "int" (.bl k)))) from (show isiD "int" (.bl k) = true from rfl) ▸ e.h h)⟩
instance {tt : Bool} {kd : List (D × D)}  [e : Ev (P (.dat (.bl false))) R] : Ev (wIsi "int" (.dct tt kd) P) (R) := ⟨fun h => (show P (.dat (.bl (isiD "int" (.dct tt kd)))) from (show isiD "int" (.dct tt kd) = false from rfl) ▸ e.h h)⟩
instance {l : List D} {p q : Option Int}  [e : Ev (P (.own (.lst (cut l p q)))) R] : Ev (wSl (.lst l) p q P) (R) := ⟨fun h => x_sll (e.h h)⟩
instance {l : List D} {p q : Option Int}  [e : Ev (P (.dat (.tup (cut l p q)))) R] : Ev (wSl (.tup l) p q P) (R) := ⟨fun h => x_slt (e.h h)⟩
instance {l : List Nat} {p q : Option Int}  [e : Ev (P (.dat (.str (cut l p q)))) R] : Ev (wSl (.str l) p q P) (l.length ≤ 16777216 ∧ R) := ⟨fun h => x_sls h.1 (e.h h.2)⟩

-- places of written-out lists
class NthC (l : List D) (n : Nat) (d : outParam D) : Prop where h : l[n]? = some d
instance {d : D} {l : List D} : NthC (d :: l) 0 d := ⟨rfl⟩
instance {d d0 : D} {l : List D} {n : Nat} [h : NthC l n d] : NthC (d0 :: l) (n + 1) d := ⟨by rw [List.getElem?_cons_succ]; exact h.h⟩
class PutC (l : List D) (n : Nat) (d : D) (l' : outParam (List D)) : Prop where
  h : l.set n d = l'
  k : n < l.length
instance {d d0 : D} {l : List D} : PutC (d0 :: l) 0 d (d :: l) := ⟨rfl, Nat.zero_lt_succ _⟩
instance {d d0 : D} {l l' : List D} {n : Nat} [h : PutC l n d l'] : PutC (d0 :: l) (n + 1) d (d0 :: l') := ⟨by rw [List.set_cons_succ, h.h], Nat.succ_lt_succ h.k⟩
class LitC (i : Int) (n : outParam Nat) : Prop where h : i = (n : Int)
instance : LitC 0 0 := ⟨rfl⟩
instance : LitC 1 1 := ⟨rfl⟩
instance : LitC 2 2 := ⟨rfl⟩
instance : LitC 3 3 := ⟨rfl⟩
instance : LitC 4 4 := ⟨rfl⟩
instance : LitC 5 5 := ⟨rfl⟩
instance : LitC 6 6 := ⟨rfl⟩
instance : LitC 7 7 := ⟨rfl⟩
instance : LitC 8 8 := ⟨rfl⟩
instance : LitC 9 9 := ⟨rfl⟩
instance : LitC 10 10 := ⟨rfl⟩
instance : LitC 11 11 := ⟨rfl⟩
instance : LitC 12 12 := ⟨rfl⟩
theorem ixN_nat {n k : Nat} (h : n < k) : ixN k (n : Int) = some n := by
  unfold L2.ixN
  rw [if_pos (by omega), if_pos (by omega)]; simp
instance (priority := 2000) {l : List D} {i : Int} {n : Nat} [q : LitC i n] [c : NthC l n x] [e : Ev (P (.dat x)) R] : Ev (wIx (.lst l) (.int i) P) R := ⟨fun h => x_ixl (by rw [q.h, atI_nat]; exact c.h) (e.h h)⟩
instance (priority := 2000) {l : List D} {i : Int} {n : Nat} [q : LitC i n] [c : NthC l n x] [e : Ev (P (.dat x)) R] : Ev (wIx (.tup l) (.int i) P) R := ⟨fun h => x_ixt (by rw [q.h, atI_nat]; exact c.h) (e.h h)⟩
instance (priority := 2000) {l l' : List D} {i : Int} {n : Nat} {N : D → Prop} [q : LitC i n] [c : PutC l n y l'] [e : Ev (N (.lst l')) R] : Ev (setD (.lst l) (.int i) y N) R := ⟨fun h => x_setl (n := n) (by rw [q.h, ixN_nat c.k]) (by rw [c.h]; exact e.h h)⟩
instance {l : List D} {n : Int} {N : D → Prop} [e : Ev (N (.lst (l.set n.toNat y))) R] : Ev (setD (.lst l) (.int n) y N) ((0 ≤ n ∧ n < l.length) ∧ R) := ⟨fun h => x_setl (n := n.toNat) (by
  obtain ⟨m, rfl⟩ := Int.eq_ofNat_of_zero_le h.1.1
  rw [ixN_nat (by have := h.1.2; omega)]; rfl) (e.h h.2)⟩
instance (priority := 500) {l : List D} {n : Int} {RD : D → Prop} [e : ∀ d, Ev (P (.dat d)) (RD d)] : Ev (wIx (.lst l) (.int n) P) (∃ d, atI l n = some d ∧ RD d) := ⟨fun ⟨d, k, h⟩ => x_ixl k ((e d).h h)⟩
instance (priority := 500) {l : List D} {n : Int} {RD : D → Prop} [e : ∀ d, Ev (P (.dat d)) (RD d)] : Ev (wIx (.tup l) (.int n) P) (∃ d, atI l n = some d ∧ RD d) := ⟨fun ⟨d, k, h⟩ => x_ixt k ((e d).h h)⟩
instance {l : List Int} {n : Int} {RD : Int → Prop} [e : ∀ d, Ev (P (.dat (.int d))) (RD d)] : Ev (wIx (.lst (l.map D.int)) (.int n) P) (∃ d, atI l n = some d ∧ RD d) := ⟨fun ⟨d, k, h⟩ => x_ixl (by rw [atI_map, k]; rfl) ((e d).h h)⟩
instance {l : List (List Nat)} {n : Int} {RD : List Nat → Prop} [e : ∀ d, Ev (P (.dat (.str d))) (RD d)] : Ev (wIx (.lst (l.map D.str)) (.int n) P) (∃ d, atI l n = some d ∧ RD d) := ⟨fun ⟨d, k, h⟩ => x_ixl (by rw [atI_map, k]; rfl) ((e d).h h)⟩
instance {s : List Nat} {n : Int} {RD : Nat → Prop} [e : ∀ d, Ev (P (.dat (.str [d]))) (RD d)] : Ev (wIx (.str s) (.int n) P) (s.length ≤ 16777216 ∧ ∃ d, atI s n = some d ∧ RD d) := ⟨fun ⟨k0, d, k, h⟩ => x_ixs k0 k ((e d).h h)⟩
instance {s : List Int} {n : Int} {RD : Int → Prop} [e : ∀ d, Ev (P (.dat (.int d))) (RD d)] : Ev (wIx (.scr s) (.int n) P) (∃ d, atI s n = some d ∧ RD d) := ⟨fun ⟨d, k, h⟩ => x_ixc k ((e d).h h)⟩
instance {tt : Bool} {kd : List (D × D)} {RD : D → Prop} [e : ∀ d, Ev (P (.dat d)) (RD d)] : Ev (wIx (.dct tt kd) x P) (keyOk tt x = true ∧ ∃ d, lookD kd x = some d ∧ RD d) := ⟨fun ⟨k0, d, k, h⟩ => x_ixd k0 k ((e d).h h)⟩
-- lists of one kind
class IntsC (l : List D) (ns : outParam (List Int)) : Prop where h : l = ns.map D.int
instance : IntsC [] [] := ⟨rfl⟩
instance {n : Int} {l : List D} {ns : List Int} [h : IntsC l ns] : IntsC (.int n :: l) (n :: ns) := ⟨by rw [h.h]; rfl⟩
instance {ns : List Int} : IntsC (ns.map D.int) ns := ⟨rfl⟩
class StrsC (l : List D) (ns : outParam (List (List Nat))) : Prop where h : l = ns.map D.str
instance : StrsC [] [] := ⟨rfl⟩
instance {n : List Nat} {l : List D} {ns : List (List Nat)} [h : StrsC l ns] : StrsC (.str n :: l) (n :: ns) := ⟨by rw [h.h]; rfl⟩
instance {ns : List (List Nat)} : StrsC (ns.map D.str) ns := ⟨rfl⟩
class BlsC (l : List D) (ns : outParam (List Bool)) : Prop where h : l = ns.map D.bl
instance : BlsC [] [] := ⟨rfl⟩
instance {n : Bool} {l : List D} {ns : List Bool} [h : BlsC l ns] : BlsC (.bl n :: l) (n :: ns) := ⟨by rw [h.h]; rfl⟩
instance {ns : List Bool} : BlsC (ns.map D.bl) ns := ⟨rfl⟩
instance {l : List D} {ns : List Int} [c : IntsC l ns] [e : Ev (P (.dat (.int ns.sum))) R] : Ev (wSum (.lst l) P) R := ⟨fun h => ⟨ns, c.h, e.h h⟩⟩
instance {l : List D} {ns : List Bool} [c : BlsC l ns] [e : Ev (P (.dat (.bl (ns.all id)))) R] : Ev (wAll (.lst l) P) R := ⟨fun h => ⟨ns, c.h, e.h h⟩⟩
instance {l : List D} {ns : List Bool} [c : BlsC l ns] [e : Ev (P (.dat (.bl (ns.any id)))) R] : Ev (wAny (.lst l) P) R := ⟨fun h => ⟨ns, c.h, e.h h⟩⟩
instance {l : List D} {RN : Nat → Prop} [e : ∀ j : Nat, Ev (P (.dat (.int (j : Nat)))) (RN j)] : Ev (wIndexL (.lst l) y P) (okD (.lst l) = true ∧ okD y = true ∧ ∃ j : Nat, idxOf l y = some j ∧ RN j) := ⟨fun ⟨k1, k2, j, k3, h⟩ => ⟨k1, k2, j, k3, (e j).h h⟩⟩
-- what the helpers promise
instance {PP : B → D → Prop} {n : Int} {RN : Int → D → Prop} [e : ∀ v d', Ev (PP (.dat (.int v)) d') (RN v d')] : Ev (f__law_draw x (.int n) PP) (isPool x ∧ (0 < n ∧ n < 2 ^ 1900) ∧ ∀ v d', 0 ≤ v → v < n → isPool d' → RN v d') := ⟨fun h => ⟨h.1, n, rfl, h.2.1.1, h.2.1.2, fun v d' a b c => (e v d').h (h.2.2 v d' a b c)⟩⟩
instance {PP : B → D → Prop} {RD : D → Prop} [e : ∀ d', Ev (PP (.dat .non) d') (RD d')] : Ev (f__law_next x PP) (isPool x ∧ ∀ d', isPool d' → RD d') := ⟨fun h => ⟨h.1, fun d' k => (e d').h (h.2 d' k)⟩⟩
instance {PP : B → D → Prop} {l : List D} {ss : List (List Nat)} {RD : List Nat → D → Prop} [c : StrsC l ss] [e : ∀ s d', Ev (PP (.dat (.str s)) d') (RD s d')] : Ev (f__law_pick x (.lst l) PP) (isPool x ∧ (ss ≠ [] ∧ ss.length ≤ 16777216) ∧ ∀ s d', s ∈ ss → isPool d' → RD s d') := ⟨fun h => ⟨h.1, l, rfl, by rw [c.h]; intro z; exact h.2.1.1 (List.map_eq_nil_iff.mp z), by rw [c.h, List.length_map]; exact h.2.1.2, fun y d' hy hp => by
  rw [c.h] at hy
  obtain ⟨s, hs, rfl⟩ := List.mem_map.mp hy
  exact (e s d').h (h.2.2 s d' hs hp)⟩⟩
instance {PP : B → D → Prop} {l : List D} {ss : List Int} {RD : Int → D → Prop} [c : IntsC l ss] [e : ∀ s d', Ev (PP (.dat (.int s)) d') (RD s d')] : Ev (f__law_pick x (.lst l) PP) (isPool x ∧ (ss ≠ [] ∧ ss.length ≤ 16777216) ∧ ∀ s d', s ∈ ss → isPool d' → RD s d') := ⟨fun h => ⟨h.1, l, rfl, by rw [c.h]; intro z; exact h.2.1.1 (List.map_eq_nil_iff.mp z), by rw [c.h, List.length_map]; exact h.2.1.2, fun y d' hy hp => by
  rw [c.h] at hy
  obtain ⟨s, hs, rfl⟩ := List.mem_map.mp hy
  exact (e s d').h (h.2.2 s d' hs hp)⟩⟩
instance (priority := 500) {PP : B → D → Prop} {l : List D} {RD : D → D → Prop} [e : ∀ s d', Ev (PP (.dat s) d') (RD s d')] : Ev (f__law_pick x (.lst l) PP) (isPool x ∧ (l ≠ [] ∧ l.length ≤ 16777216) ∧ ∀ s d', s ∈ l → isPool d' → RD s d') := ⟨fun h => ⟨h.1, l, rfl, h.2.1.1, h.2.1.2, fun y d' hy hp => (e y d').h (h.2.2 y d' hy hp)⟩⟩
instance {n : Nat} [e : Ev (P (.dat (.bl true))) R] : Ev (f__law_same n x y P) (SameN n x y ∧ R) := ⟨fun h => ⟨h.1, e.h h.2⟩⟩
instance {ns0 : List Int} {RX : D → Prop} [e : ∀ d, Ev (P (.own d)) (RX d)] : Ev (f__law_pool (.scr ns0) P) (∀ d, isPool d → RX d) := ⟨fun h => ⟨⟨_, rfl⟩, fun d k => (e d).h (h d k)⟩⟩
theorem rng_get {lo : Int} {n i : Nat} {d : D} (h : (rng lo n)[i]? = some d) : i < n ∧ d = .int (lo + (i : Int)) := by
  unfold rng at h
  rw [List.getElem?_map] at h
  rcases Nat.lt_or_ge i n with g | g
  · rw [List.getElem?_range g] at h
    exact ⟨g, (Option.some.inj h).symm⟩
  · rw [List.getElem?_eq_none (by rw [List.length_range]; exact g)] at h; cases h
theorem rng_len {lo : Int} {n : Nat} : (rng lo n).length = n := by unfold rng; rw [List.length_map, List.length_range]
class WipeC (E : En) (vs : List Nat) (E' : outParam En) : Prop where h : wipeE E vs = E'
instance {E : En} : WipeC E [] E := ⟨rfl⟩
instance {E E1 E2 : En} {v : Nat} {vs : List Nat} [a : WipeC E vs E1] [b : SetC E1 v none E2] : WipeC E (v :: vs) E2 := ⟨by unfold wipeE; rw [a.h, b.h.eq]⟩
class RawC (E : En) (i : Nat) (y : outParam (Option B)) : Prop where h : E[i]? = some y
instance {y : Option B} {l : En} : RawC (y :: l) 0 y := ⟨rfl⟩
instance {y x : Option B} {l : En} {i : Nat} [h : RawC l i y] : RawC (x :: l) (i + 1) y := ⟨by rw [List.getElem?_cons_succ]; exact h.h⟩
def keepB : Option B → Option B
  | some (.dat d) => some (.dat d)
  | _ => none
class KeepC (y : Option B) (z : outParam (Option B)) : Prop where h : keepB y = z
instance : KeepC none none := ⟨rfl⟩
instance {d : D} : KeepC (some (.dat d)) (some (.dat d)) := ⟨rfl⟩
instance {d : D} : KeepC (some (.own d)) none := ⟨rfl⟩
instance {a : Addr} {d : D} : KeepC (some (.par a d)) none := ⟨rfl⟩
class BackC (E1 E : En) (vs : List Nat) (E' : outParam En) : Prop where h : backE E1 E vs = E'
instance {E E1 : En} : BackC E1 E [] E1 := ⟨rfl⟩
instance {E E1 E2 E3 : En} {v : Nat} {vs : List Nat} {y z : Option B} [a : BackC E1 E vs E2] [r : RawC E v y] [k : KeepC y z] [b : SetC E2 v z E3] : BackC E1 E (v :: vs) E3 := ⟨by
  unfold backE
  rw [a.h, r.h]
  have hk := k.h
  have hb := b.h.eq
  rw [← hk] at hb
  rw [← hb]
  congr 1
  cases y with
  | none => rfl
  | some b => cases b <;> rfl⟩
theorem x_lcM' {E0 E9 : En} {t : WT} {we : WE} {wg : WG} {vs : List Nat} {ds : List D} (f : D → D) [e0 : WipeC E vs E0] [e9 : BackC E0 E vs E9] (hs : ∀ (i : Nat) (d : D), ds[i]? = some d → wg d E0 fun E2 => t E2 fun b E3 => if b = true then we E3 (yK (fun _ => true) f ds vs E0 i) else nK (fun _ => true) f ds vs E0 i E3)
    (hd : Q (.own (.lst (ds.map f))) E9) : lcK wg t we vs ds E Q := x_lcM f e0.h e9.h hs hd
theorem x_lcF' {E0 E9 : En} {t : WT} {we : WE} {wg : WG} {vs : List Nat} {ds : List D} (p : D → Bool) (f : D → D) [e0 : WipeC E vs E0] [e9 : BackC E0 E vs E9] (hs : ∀ (i : Nat) (d : D), ds[i]? = some d → wg d E0 fun E2 => t E2 fun b E3 => if b = true then we E3 (yK p f ds vs E0 i) else nK p f ds vs E0 i E3)
    (hd : Q (.own (.lst ((ds.filter p).map f))) E9) : lcK wg t we vs ds E Q := x_lcF p f e0.h e9.h hs hd
theorem yK_c {p : D → Bool} {f : D → D} {vs : List Nat} {ds : List D} {i : Nat} {E0 E4 : En} {d : D} {yb : B} {v : D} (hi : ds[i]? = some d) [dv : DtC yb v] [hw : WipeC E4 vs E0] (hl : ds.length ≤ 16777216) (hp : p d = true) (hf : v = f d) : yK p f ds vs E0 i yb E4 := yK_of hi hl hp (dv.h.trans hf) hw.h
theorem nK_c {p : D → Bool} {f : D → D} {vs : List Nat} {ds : List D} {i : Nat} {E0 E3 : En} {d : D} (hi : ds[i]? = some d) [hw : WipeC E3 vs E0] (hp : p d = false) : nK p f ds vs E0 i E3 := nK_of hi hp hw.h

/-! ### comprehensions whose items draw: F x is the state, p holds of x between -/
def jP {α : Type} (F : α → En) (p : α → Prop) : En → Prop := fun E' => ∃ x, p x ∧ E' = F x
theorem x_lcJ {α : Type} {we : WE} {wg : WG} {vs : List Nat} {ds : List D} (F : α → En) (p : α → Prop) (Pd : Nat → D → Prop) (x0 : α) (e0 : wipeE E vs = F x0) (p0 : p x0) {G : α → En} [e9 : ∀ x, BackC (F x) E vs (G x)]
    (hs : ∀ (i : Nat) (d : D) (acc : List D) (x : α), ds[i]? = some d → i < ds.length → p x → aW Pd (jP F p) ds.length i acc (F x) → wg d (F x) fun E2 => we E2 (aK Pd (jP F p) vs ds.length i acc))
    (hd : ∀ (acc : List D) (x : α), acc.length = ds.length → (∀ (j : Nat) (y : D), acc[j]? = some y → Pd j y) → p x → Q (.own (.lst acc)) (G x)) : lcK wg wYes we vs ds E Q := by
  refine x_lcA Pd (jP F p) (by rw [e0]; exact ⟨_, p0, rfl⟩) ?_ rfl ?_
  · rintro i d acc E' hi hlt ⟨x, hp, rfl⟩ hw
    exact hs i d acc x hi hlt hp hw
  · rintro acc E' hl ha ⟨x, hp, rfl⟩
    rw [(e9 x).h]
    exact hd acc x hl ha hp
theorem aK_c {α : Type} {F : α → En} {p : α → Prop} {Pd : Nat → D → Prop} {vs : List Nat} {n i : Nat} {acc : List D} {yb : B} {v : D} {E4 E5 E6 : En} (x : α) (hl : n ≤ 16777216) (h : aW Pd (jP F p) n i acc E6) (hn : i < n) [dv : DtC yb v] [hw : WipeC E4 vs E5] (he : E5 = F x) (hp : p x) (h1 : Pd i v) : aK Pd (jP F p) vs n i acc yb E4 :=
  aK_of (E' := E6) hl h hn (by rw [dv.h]; exact h1) (by rw [hw.h, he]; exact ⟨x, hp, rfl⟩)
/-- a loop behind which ways meet: M holds behind it -/
theorem x_forJ {g : WG} {ds : List D} (M : En → Prop) (h1 : ∀ nx' : En → Prop, (∀ E', M E' → nx' E') → forK g a ⟨nx', rt, bk, ct⟩ ds E) (h2 : ∀ E', M E' → nx E') : forK g a ⟨nx, rt, bk, ct⟩ ds E := h1 nx h2
theorem x_whileJ (M : En → Prop) (h1 : ∀ nx' : En → Prop, (∀ E', M E' → nx' E') → sWhile t a ⟨nx', rt, bk, ct⟩ E) (h2 : ∀ E', M E' → nx E') : sWhile t a ⟨nx, rt, bk, ct⟩ E := h1 nx h2

end
end PW

set_option Elab.async false
set_option linter.all false
set_option autoImplicit false
set_option maxRecDepth 100000
set_option maxHeartbeats 4000000
set_option synthInstance.maxHeartbeats 2000000
set_option synthInstance.maxSize 1000000
set_option exponentiation.threshold 5000
namespace PW
open PySem PySem.Spec PyProof.Rows L2

def N__law_mixed : Nat := 5
-- 0:number 1:place 2:first 3:second 4:third
def w__law_mixed : WS :=
  (sSeq (sSet 2 (wOp wMod (oE (wUn wInt (oE (wOp wAdd (oE (wOp wAdd (oE (wOp wMulG (oV 0) (oE (wC (.int 48271))))) (oE (wOp wMulG (oV 1) (oE (wC (.int 69621))))))) (oE (wC (.int 11))))))) (oE (wC (.int 618970019642690137449562111)))))
  (sSeq (sSet 3 (wOp wMod (oE (wUn wInt (oE (wOp wAdd (oE (wOp wAdd (oE (wOp wMulG (oV 2) (oV 2))) (oE (wOp wMulG (oE (wC (.int 7))) (oV 2))))) (oV 1))))) (oE (wC (.int 162259276829213363391578010288127)))))
  (sSeq (sSet 4 (wOp wMod (oE (wUn wInt (oE (wOp wAdd (oE (wOp wMulG (oV 3) (oV 3))) (oV 2))))) (oE (wC (.int 618970019642690137449562111)))))
  (sRet (wOp wAdd (oE (wOp wMulG (oV 3) (oE (wC (.int 618970019642690137449562111))))) (oV 4))))))
def N__law_rest : Nat := 4
-- 0:script 1:place 2:fills 3:number
def w__law_rest : WS :=
  (sSeq (sSet 3 (wC (.int 0)))
  (sJ (sIf (wTst (wOp wGt (oE (wUn wLen (oV 0))) (oE (wC (.int 0))))) (sSet 3 (wUn wInt (oE (wOp wIx (oV 0) (oE (wOp wMod (oE (wUn wInt (oV 1))) (oE (wUn wLen (oV 0))))))))) sNext)
  (sJ (sIf (wTst (wOp wLt (oV 3) (oE (wC (.int 0))))) (sSet 3 (wOp wSub (oE (wC (.int 1))) (oE (wOp wMulG (oE (wC (.int 2))) (oV 3))))) sNext)
  (sJ (sIf (wAnd (wTst (wOp wEq (oV 2) (oE (wC (.int 0))))) (wAnd (wTst (wOp wLt (oV 1) (oE (wUn wLen (oV 0))))) (wTst (wOp wGe (oV 3) (oE (wOp wPow (oE (wC (.int 10))) (oE (wC (.int 18))))))))) (sRet (wOp wSub (oV 3) (oE (wOp wPow (oE (wC (.int 10))) (oE (wC (.int 18))))))) sNext)
  (sRet (wCall (fs2 f__law_mixed) (aC (wOp wAdd (oV 3) (oE (wOp wMulG (oV 2) (oE (wC (.int 1000003)))))) (aC (wV 1) aN))))))))
def N__law_pool : Nat := 1
-- 0:script
def w__law_pool : WS :=
  (sRet (wLst (aC (wV 0) (aC (wC (.int 0)) (aC (wCall (fs3 f__law_rest) (aC (wV 0) (aC (wC (.int 0)) (aC (wC (.int 0)) aN)))) (aC (wC (.int 0)) aN))))))
def N__law_next : Nat := 1
-- 0:pool
def w__law_next : WS :=
  (sSeq (sSub 0 (wC (.int 1)) (wOp wAdd (oE (wOp wIx (oV 0) (oE (wC (.int 1))))) (oE (wC (.int 1)))))
  (sSeq (sSub 0 (wC (.int 2)) (wCall (fs3 f__law_rest) (aC (wOp wIx (oV 0) (oE (wC (.int 0)))) (aC (wOp wIx (oV 0) (oE (wC (.int 1)))) (aC (wC (.int 0)) aN)))))
  (sSub 0 (wC (.int 3)) (wC (.int 0)))))
def N__law_draw : Nat := 3
-- 0:pool 1:limit 2:value
def w__law_draw : WS :=
  (sJ (sIf (wTst (wOp wLe (oE (wOp wIx (oV 0) (oE (wC (.int 2))))) (oE (wC (.int 1))))) (sSeq (sSub 0 (wC (.int 3)) (wOp wAdd (oE (wOp wIx (oV 0) (oE (wC (.int 3))))) (oE (wC (.int 1)))))
  (sSub 0 (wC (.int 2)) (wCall (fs3 f__law_rest) (aC (wOp wIx (oV 0) (oE (wC (.int 0)))) (aC (wOp wIx (oV 0) (oE (wC (.int 1)))) (aC (wOp wIx (oV 0) (oE (wC (.int 3)))) aN)))))) sNext)
  (sSeq (sSet 2 (wOp wMod (oE (wUn wInt (oE (wOp wIx (oV 0) (oE (wC (.int 2))))))) (oV 1)))
  (sSeq (sSub 0 (wC (.int 2)) (wOp wFdiv (oE (wUn wInt (oE (wOp wIx (oV 0) (oE (wC (.int 2))))))) (oV 1)))
  (sRet (wM 2)))))
def N__law_pick : Nat := 2
-- 0:pool 1:options
def w__law_pick : WS :=
  (sRet (wOp wIx (oV 1) (oE (wCallP 0 (ps1 f__law_draw) (aC (wUn wLen (oV 1)) aN)))))
def N__law_same : Nat := 4
-- 0:due 1:answer 2:key 3:k
def w__law_same (self : FS) : WS :=
  (sSeq (sIf (wTst (wUn (wIsi "dict") (oV 0))) (sSeq (sIf (wOr (wNot (wTst (wUn (wIsi "dict") (oV 1)))) (wTst (wOp wNe (oE (wUn wLen (oV 0))) (oE (wUn wLen (oV 1)))))) (sRet (wC (.bl false))) sNext)
  (sSeq (sFor (iS (wV 0)) (gN 2) (sIf (wOr (wTst (wOp wNin (oV 2) (oV 1))) (wNot (wTst (wCall self (aC (wOp wIx (oV 0) (oV 2)) (aC (wOp wIx (oV 1) (oV 2)) aN)))))) (sRet (wC (.bl false))) sNext))
  (sRet (wC (.bl true))))) sNext)
  (sSeq (sIf (wOr (wTst (wUn (wIsi "list") (oV 0))) (wTst (wUn (wIsi "tuple") (oV 0)))) (sSeq (sIf (wOr (wTst (wOp wNe (oE (wUn (wIsi "list") (oV 0))) (oE (wUn (wIsi "list") (oV 1))))) (wTst (wOp wNe (oE (wUn (wIsi "tuple") (oV 0))) (oE (wUn (wIsi "tuple") (oV 1)))))) (sRet (wC (.bl false))) sNext)
  (sRet (wAndV (wOp wEq (oE (wUn wLen (oV 0))) (oE (wUn wLen (oV 1)))) (wUn wAll (oE (wLc (iR1 (wUn wLen (oV 0))) (gN 3) wYes (wCall self (aC (wOp wIx (oV 0) (oV 3)) (aC (wOp wIx (oV 1) (oV 3)) aN))) [3])))))) sNext)
  (sSeq (sIf (wOr (wTst (wOp wIsN (oV 0) (oE (wC .non)))) (wTst (wOp wIsN (oV 1) (oE (wC .non))))) (sRet (wAndV (wOp wIsN (oV 0) (oE (wC .non))) (wOp wIsN (oV 1) (oE (wC .non))))) sNext)
  (sSeq (sIf (wOr (wTst (wUn (wIsi "bool") (oV 0))) (wTst (wUn (wIsi "bool") (oV 1)))) (sRet (wAndV (wUn (wIsi "bool") (oV 0)) (wAndV (wUn (wIsi "bool") (oV 1)) (wOp wEq (oV 0) (oV 1))))) sNext)
  (sSeq (sIf (wTst (wUn (wIsi "str") (oV 0))) (sRet (wAndV (wUn (wIsi "str") (oV 1)) (wOp wEq (oV 0) (oV 1)))) sNext)
  (sRet (wAndV (wUn (wIsi "int") (oV 1)) (wOp wEq (oV 0) (oV 1)))))))))
local macro_rules | `(tactic| walk_at "sta") => `(tactic| with_reducible repeat (first | exact StaR.z | apply StaR.c | apply StaR.n))
local macro_rules | `(tactic| walk_at "start") => `(tactic| with_reducible first | refine LF2 (by walk_at "sta") ?_ | refine LF1 (by walk_at "sta") ?_ | refine LF3 (by walk_at "sta") ?_ | refine LF4 (by walk_at "sta") ?_ | refine LF0 (by walk_at "sta") ?_ | refine LF5 (by walk_at "sta") ?_ | refine LF6 (by walk_at "sta") ?_ | refine LP0 (by walk_at "sta") ?_ | refine LP1 (by walk_at "sta") ?_ | refine LP2 (by walk_at "sta") ?_ | refine LP3 (by walk_at "sta") ?_)
theorem law__law_mixed : ∀ a b Pp, f__law_mixed a b Pp → LF N__law_mixed w__law_mixed [a, b] Pp := by
  rintro a b Pp ⟨⟨i, rfl⟩, ⟨j, rfl⟩, k⟩
  unfold N__law_mixed w__law_mixed
  walk_at "start"
  refine ev_ ?_
  have h1 := Int.emod_nonneg (i * 48271 + j * 69621 + 11) (b := 618970019642690137449562111) (by decide)
  have h2 := Int.emod_lt_of_pos (i * 48271 + j * 69621 + 11) (b := 618970019642690137449562111) (by decide)
  generalize (i * 48271 + j * 69621 + 11) % 618970019642690137449562111 = u at *
  have h3 := Int.emod_nonneg (u * u + 7 * u + j) (b := 162259276829213363391578010288127) (by decide)
  have h4 := Int.emod_lt_of_pos (u * u + 7 * u + j) (b := 162259276829213363391578010288127) (by decide)
  generalize (u * u + 7 * u + j) % 162259276829213363391578010288127 = v at *
  exact ⟨mul_r (by decide), mul_r (by decide), by decide, mul_b (by omega) (by omega), mul_l (by decide), by decide, mul_b (by omega) (by omega), by decide, mul_b (by omega) (by decide), k _⟩
theorem law__law_rest : ∀ a b c Pp, f__law_rest a b c Pp → LF N__law_rest w__law_rest [a, b, c] Pp := by
  rintro a b c Pp ⟨⟨ns, rfl⟩, ⟨i, rfl⟩, ⟨j, rfl⟩, k⟩
  unfold N__law_rest w__law_rest
  walk_at "start"
  refine ev_ ?_
  refine x_join (fun E => ∃ n : Int, E = [some (.dat (.scr ns)), some (.dat (.int i)), some (.dat (.int j)), some (.dat (.int n))]) (fun nx' hn => ?_) ?_
  · refine ev_ite (fun h => ?_) (fun h => hn _ ⟨_, rfl⟩)
    have h1 := Int.emod_nonneg i (b := (ns.length : Int)) (by omega)
    have h2 := Int.emod_lt_of_pos i (b := (ns.length : Int)) h
    refine ⟨h, ns[(i % (ns.length : Int)).toNat]'(by omega), ?_, hn _ ⟨_, rfl⟩⟩
    rw [atI_pos h1]
    exact List.getElem?_eq_getElem _
  · rintro E ⟨n, rfl⟩
    refine ev_ ?_
    refine x_join (fun E => ∃ n : Int, E = [some (.dat (.scr ns)), some (.dat (.int i)), some (.dat (.int j)), some (.dat (.int n))]) (fun nx' hn => ?_) ?_
    · exact ev_ite (fun h => ⟨mul_l (by decide), hn _ ⟨_, rfl⟩⟩) (fun h => hn _ ⟨_, rfl⟩)
    · rintro E ⟨n, rfl⟩
      refine ev_ ?_
      refine x_join (fun E => E = [some (.dat (.scr ns)), some (.dat (.int i)), some (.dat (.int j)), some (.dat (.int n))]) (fun nx' hn => ?_) ?_
      · refine ev_ ?_
        exact ev_ite (fun h => x_iteD (fun h2 => ev_ ⟨by decide, x_iteD (fun h3 => ev_ ⟨by decide, k _⟩) fun h3 => hn _ rfl⟩) (fun h2 => hn _ rfl)) (fun h => hn _ rfl)
      · rintro E rfl
        exact ev_ ⟨mul_r (by decide), ⟨_, rfl⟩, ⟨_, rfl⟩, k⟩
theorem law__law_pool : ∀ a Pp, f__law_pool a Pp → LF N__law_pool w__law_pool [a] Pp := by
  rintro a Pp ⟨⟨ns, rfl⟩, k⟩
  unfold N__law_pool w__law_pool
  walk_at "start"
  exact ev_ ⟨⟨_, rfl⟩, ⟨_, rfl⟩, ⟨_, rfl⟩, fun v => ev_ (k _ ⟨ns, 0, v, 0, rfl⟩)⟩
theorem law__law_next : ∀ p a Pp, f__law_next a Pp → LP N__law_next w__law_next p a [] Pp := by
  rintro p a Pp ⟨⟨ns, i, v, c, rfl⟩, k⟩
  unfold N__law_next w__law_next
  walk_at "start"
  refine ev_ ?_
  exact ⟨⟨_, rfl⟩, ⟨_, rfl⟩, ⟨_, rfl⟩, fun v => ev_ (k _ ⟨_, _, _, _, rfl⟩)⟩
theorem law__law_draw : ∀ p a b Pp, f__law_draw a b Pp → LP N__law_draw w__law_draw p a [b] Pp := by
  rintro p a b Pp ⟨⟨ns, i, v, c, rfl⟩, n, rfl, n0, n1, k⟩
  unfold N__law_draw w__law_draw
  walk_at "start"
  refine ev_ ?_
  refine x_join (fun E => ∃ i v c : Int, E = [some (.par p (.lst [.scr ns, .int i, .int v, .int c])), some (.dat (.int n)), none]) (fun nx' hn => ?_) ?_
  · refine ev_ ?_
    refine ev_ite (fun h => ?_) (fun h => hn _ ⟨_, _, _, rfl⟩)
    exact ⟨⟨_, rfl⟩, ⟨_, rfl⟩, ⟨_, rfl⟩, fun v => ev_ (hn _ ⟨_, _, _, rfl⟩)⟩
  · rintro E ⟨i, v, c, rfl⟩
    refine ev_ ⟨n0, ⟨n0, by have : n.natAbs < 2 ^ 1900 := by omega
                            exact Nat.lt_trans this (by decide)⟩, k _ _ (Int.emod_nonneg _ (by omega)) (Int.emod_lt_of_pos _ n0) ⟨_, _, _, _, rfl⟩⟩
theorem law__law_pick : ∀ p a b Pp, f__law_pick a b Pp → LP N__law_pick w__law_pick p a [b] Pp := by
  rintro p a b Pp ⟨hp, l, rfl, l0, l1, k⟩
  unfold N__law_pick w__law_pick
  walk_at "start"
  have hl : 0 < l.length := List.length_pos_iff.mpr l0
  refine ev_ ⟨hp, ⟨by omega, by omega⟩, fun v d' v0 v1 hd => ?_⟩
  refine ⟨l[v.toNat]'(by omega), by rw [atI_pos v0]; exact List.getElem?_eq_getElem _, k _ _ (List.getElem_mem _) hd⟩
theorem rec0__law_same : ∀ ds Pp, fs2 (f__law_same 0) ds Pp → False := fun ds Pp ⟨a, b, _, h, _⟩ => h
theorem law__law_same (n : Nat) : ∀ a b Pp, f__law_same (n + 1) a b Pp → LF N__law_same (w__law_same (fs2 (f__law_same n))) [a, b] Pp := by
  rintro a b Pp ⟨hs, k⟩
  unfold N__law_same w__law_same
  walk_at "start"
  unfold SameN at hs
  split at hs
  · rename_i t kd t' kd'
    obtain ⟨hl, hs⟩ := hs
    refine ev_ ?_
    refine x_iteN (fun h => (h (by rw [hl])).elim) (fun _ => ?_)
    refine ev_ ?_
    refine x_forK (fun i E => ∃ z, E = [some (.dat (.dct t kd)), some (.dat (.dct t' kd')), z, none]) ⟨_, rfl⟩ ?_ ?_
    · rintro i d E hi ⟨z, rfl⟩
      rw [List.getElem?_map] at hi
      cases e : kd[i]? with
      | none => rw [e] at hi; cases hi
      | some p =>
        rw [e] at hi
        obtain rfl := Option.some.inj hi
        obtain ⟨k1, k2, v, v', l1, l2, s⟩ := hs p (List.mem_of_getElem? e)
        refine ev_ ⟨k2, ?_⟩
        rw [l2]
        exact x_iteM (fun h => by cases h) (fun _ => ev_ ⟨k1, v, l1, k2, v', l2, s, ⟨_, rfl⟩⟩)
    · rintro E ⟨z, rfl⟩
      exact ev_ k
  · rename_i l l'
    obtain ⟨hl, h2, hs⟩ := hs
    refine ev_ ?_
    refine x_iteD (fun _ => ev_ ⟨by omega, ?_⟩) (fun h => (h (by rw [hl])).elim)
    refine x_lcM' (fun _ => .bl true) (fun i d hi => ?_) ?_
    · obtain ⟨hlt, rfl⟩ := rng_get hi
      have hlt : i < l.length := by simpa using hlt
      refine ev_ ⟨l[i], ?_, l'[i]'(by omega), ?_, ?_, ?_⟩
      · rw [Int.zero_add, atI_nat]; exact List.getElem?_eq_getElem _
      · rw [Int.zero_add, atI_nat]; exact List.getElem?_eq_getElem _
      · exact hs i _ _ (List.getElem?_eq_getElem _) (List.getElem?_eq_getElem _)
      · exact yK_c hi (by rw [rng_len]; omega) rfl rfl
    · have e : (rng 0 (Int.toNat (l.length : Int))).map (fun _ => D.bl true) = (List.replicate l.length true).map D.bl := by
        rw [List.map_const', rng_len, List.map_replicate]; rfl
      rw [e]
      refine ev_ ?_
      rw [List.all_eq_true.mpr (fun x hx => by rw [(List.mem_replicate.mp hx).2]; rfl)]
      exact k
  · rename_i l l'
    obtain ⟨hl, h2, hs⟩ := hs
    refine ev_ ?_
    refine x_iteD (fun _ => ev_ ⟨by omega, ?_⟩) (fun h => (h (by rw [hl])).elim)
    refine x_lcM' (fun _ => .bl true) (fun i d hi => ?_) ?_
    · obtain ⟨hlt, rfl⟩ := rng_get hi
      have hlt : i < l.length := by simpa using hlt
      refine ev_ ⟨l[i], ?_, l'[i]'(by omega), ?_, ?_, ?_⟩
      · rw [Int.zero_add, atI_nat]; exact List.getElem?_eq_getElem _
      · rw [Int.zero_add, atI_nat]; exact List.getElem?_eq_getElem _
      · exact hs i _ _ (List.getElem?_eq_getElem _) (List.getElem?_eq_getElem _)
      · exact yK_c hi (by rw [rng_len]; omega) rfl rfl
    · have e : (rng 0 (Int.toNat (l.length : Int))).map (fun _ => D.bl true) = (List.replicate l.length true).map D.bl := by
        rw [List.map_const', rng_len, List.map_replicate]; rfl
      rw [e]
      refine ev_ ?_
      rw [List.all_eq_true.mpr (fun x hx => by rw [(List.mem_replicate.mp hx).2]; rfl)]
      exact k
  · exact ev_ k
  · subst hs
    refine ev_ ⟨rfl, rfl, ?_⟩
    rw [eqD_bl, beq_self_eq_true]
    exact k
  · subst hs
    refine ev_ ?_
    rw [decide_eq_true rfl]; exact k
  · subst hs
    refine ev_ ?_
    rw [decide_eq_true rfl]; exact k
  · exact hs.elim
/-- the same data, laid out without dicts -/
def noDct : Nat → D → Prop
  | 0, _ => False
  | n + 1, d => match d with
    | .dct _ _ => False
    | .scr _ => False
    | .lst l => l.length < 16777216 ∧ ∀ x ∈ l, noDct n x
    | .tup l => l.length < 16777216 ∧ ∀ x ∈ l, noDct n x
    | _ => True
theorem same_self : ∀ {n : Nat} {d : D}, noDct n d → SameN n d d
  | 0, _, h => h
  | n + 1, d, h => by
    unfold noDct at h
    unfold SameN
    cases d with
    | dct t kd => exact h.elim
    | scr l => exact h.elim
    | lst l => exact ⟨rfl, h.1, fun i x y hx hy => by rw [hx] at hy; cases hy; exact same_self (h.2 _ (List.mem_of_getElem? hx))⟩
    | tup l => exact ⟨rfl, h.1, fun i x y hx hy => by rw [hx] at hy; cases hy; exact same_self (h.2 _ (List.mem_of_getElem? hx))⟩
    | non => trivial
    | bl b => rfl
    | int i => rfl
    | str s => rfl
theorem bd_consJ {X : Cx} {st : Stmt} {rest : List Stmt} {a b : WS} (h1 : SD X st a) (h2 : BD X rest b) : BD X (st :: rest) (sJ a b) := bd_cons h1 h2
theorem rm70 {k : Nat} {A : Around} (h : Room k A) : A.units + 70 < cLine := by have := h.un; omega
/-! ### dicts with texts as keys -/
def lk {α : Type} (kd : List (List Nat × α)) (k : List Nat) : Option α := (kd.find? fun p => decide (p.1 = k)).map (·.2)
def pt {α : Type} (kd : List (List Nat × α)) (k : List Nat) (v : α) : List (List Nat × α) := if (kd.any fun p => decide (p.1 = k)) = true then kd.map (fun p => if p.1 = k then (p.1, v) else p) else kd ++ [(k, v)]
def kdD {α : Type} (f : α → D) (kd : List (List Nat × α)) : List (D × D) := kd.map fun p => (.str p.1, f p.2)
theorem kdD_len {α : Type} (f : α → D) (kd : List (List Nat × α)) : (kdD f kd).length = kd.length := List.length_map _
theorem lookD_kdD {α : Type} (f : α → D) (k : List Nat) : ∀ kd : List (List Nat × α), lookD (kdD f kd) (.str k) = (lk kd k).map f
  | [] => rfl
  | p :: kd => by
    have ih := lookD_kdD f k kd
    unfold lookD lk at *
    unfold kdD at *
    rw [List.map_cons, List.find?_cons, List.find?_cons]
    show Option.map _ (match eqD (.str p.1) (.str k) with | true => _ | false => _) = _
    rw [eqD_str]
    cases h : decide (p.1 = k) with
    | true => rfl
    | false => exact ih
theorem putD_kdD {α : Type} (f : α → D) (k : List Nat) (v : α) (kd : List (List Nat × α)) : putD (kdD f kd) (.str k) (f v) = kdD f (pt kd k v) := by
  unfold putD pt kdD
  have e : (kd.map fun p => ((.str p.1 : D), f p.2)).any (fun p => eqD p.1 (.str k)) = kd.any fun p => decide (p.1 = k) := by
    rw [List.any_map]
    congr 1
    funext p
    exact eqD_str _ _
  rw [e]
  split
  · rw [List.map_map, List.map_map]
    apply List.map_congr_left
    intro p _
    show (if eqD (.str p.1) (.str k) = true then _ else _) = _
    rw [eqD_str]
    by_cases h : p.1 = k
    · simp [h]
    · simp [h]
  · rw [List.map_append]; rfl
theorem pt_len {α : Type} (kd : List (List Nat × α)) (k : List Nat) (v : α) : (pt kd k v).length ≤ kd.length + 1 := by
  unfold pt; split <;> simp
theorem pt_mem {α : Type} {kd : List (List Nat × α)} {k : List Nat} {v : α} {p : List Nat × α} (h : p ∈ pt kd k v) : p.2 = v ∨ p ∈ kd := by
  unfold pt at h
  split at h
  · obtain ⟨q, hq, rfl⟩ := List.mem_map.mp h
    split
    · exact .inl rfl
    · exact .inr hq
  · rcases List.mem_append.mp h with z | z
    · exact .inr z
    · exact .inl (by rw [List.mem_singleton.mp z])
theorem kdD_keys {α : Type} (f : α → D) (kd : List (List Nat × α)) : (kdD f kd).map (·.1) = (kd.map (·.1)).map D.str := by
  unfold kdD; rw [List.map_map, List.map_map]; rfl
/-- the first place of x -/
def fi (l : List (List Nat)) (x : List Nat) : Option Nat := l.findIdx? fun z => decide (z = x)
theorem idxOf_str (x : List Nat) : ∀ l : List (List Nat), idxOf (l.map D.str) (.str x) = fi l x
  | [] => rfl
  | z :: l => by
    have ih := idxOf_str x l
    unfold idxOf fi at *
    rw [List.map_cons, List.findIdx?_cons, List.findIdx?_cons, eqD_str, ih]
theorem fi_none {l : List (List Nat)} {x : List Nat} : fi l x = none ↔ x ∉ l := by
  unfold fi
  rw [List.findIdx?_eq_none_iff]
  constructor
  · intro h hx
    have := h x hx
    simp at this
  · intro h z hz
    rw [decide_eq_false_iff_not]
    rintro rfl
    exact h hz
theorem lk_zip (x : List Nat) : ∀ (l : List (List Nat)) (n : Nat), lk (l.zipIdx n) x = (fi l x).map (· + n)
  | [], n => rfl
  | z :: l, n => by
    have ih := lk_zip x l (n + 1)
    unfold lk fi at *
    rw [List.zipIdx_cons, List.find?_cons, List.findIdx?_cons]
    cases h : decide (z = x) with
    | true => simp
    | false =>
      simp only [ih, Option.map_map]
      cases List.findIdx? (fun z => decide (z = x)) l with
      | none => rfl
      | some j => simp only [Option.map_some, Function.comp]; congr 1; simp; omega
theorem pt_zip {l : List (List Nat)} {x : List Nat} (h : x ∉ l) : pt l.zipIdx x l.length = (l ++ [x]).zipIdx := by
  unfold pt
  rw [if_neg, List.zipIdx_append]
  · simp
  · rw [List.any_eq_true]
    rintro ⟨p, hp, e⟩
    have := of_decide_eq_true e
    have hm := List.mem_zipIdx hp
    apply h
    rw [← this]
    obtain ⟨h1, h2, h3⟩ := hm
    rw [h3]
    exact List.getElem_mem _
theorem keyOk_str (s : List Nat) : keyOk false (.str s) = true := rfl
/-- what a comprehension's items are -/
theorem acc_of {α : Type} {f : α → D} {p : α → Prop} : ∀ {acc : List D}, (∀ (j : Nat) (y : D), acc[j]? = some y → ∃ v, y = f v ∧ p v) → ∃ ds : List α, acc = ds.map f ∧ ds.length = acc.length ∧ ∀ d ∈ ds, p d
  | [], _ => ⟨[], rfl, rfl, fun d h => by cases h⟩
  | y :: acc, h => by
    obtain ⟨v, rfl, hv⟩ := h 0 y rfl
    obtain ⟨ds, rfl, hl, hd⟩ := acc_of (acc := acc) fun j z hz => h (j + 1) z hz
    exact ⟨v :: ds, rfl, by simp, fun d hm => by
      rcases List.mem_cons.mp hm with e | e
      · subst e; exact hv
      · exact hd d e⟩
theorem okN_strs {l : List (List Nat)} (h : ∀ s ∈ l, okS s) : okN 1 (.lst (l.map D.str)) := okN_lst fun d hd => by
  obtain ⟨s, hs, rfl⟩ := List.mem_map.mp hd
  exact okN_str (h s hs)
theorem okN_ints (l : List Int) : okN 1 (.lst (l.map D.int)) := okN_lst fun d hd => by
  obtain ⟨v, _, rfl⟩ := List.mem_map.mp hd
  exact okN_int v
theorem eqD_strs (a b : List (List Nat)) : eqD (.lst (a.map D.str)) (.lst (b.map D.str)) = decide (a = b) := by rw [eqD_lst]; exact eqDs_dec eqS a b
theorem eqD_ints (a b : List Int) : eqD (.lst (a.map D.int)) (.lst (b.map D.int)) = decide (a = b) := by rw [eqD_lst]; exact eqDs_dec eqI a b
theorem flat_strs (l : List (List Nat)) : (l.map D.str).all flatD = true := by rw [List.all_map, List.all_eq_true]; intro _ _; rfl
theorem flat_ints (l : List Int) : (l.map D.int).all flatD = true := by rw [List.all_map, List.all_eq_true]; intro _ _; rfl
theorem anyD_strs (x : List Nat) (l : List (List Nat)) : anyD (.str x) (l.map D.str) = decide (x ∈ l) := (anyD_map eqS x l).trans (decide_eq_decide.mpr Iff.rfl)
theorem anyD_ints (x : Int) (l : List Int) : anyD (.int x) (l.map D.int) = decide (x ∈ l) := (anyD_map eqI x l).trans (decide_eq_decide.mpr Iff.rfl)
theorem noDct_strs (n : Nat) {l : List (List Nat)} (h : l.length < 16777216) : noDct (n + 2) (.lst (l.map D.str)) := ⟨by rw [List.length_map]; exact h, fun d hd => by
  obtain ⟨s, _, rfl⟩ := List.mem_map.mp hd
  trivial⟩
theorem noDct_ints (n : Nat) {l : List Int} (h : l.length < 16777216) : noDct (n + 2) (.lst (l.map D.int)) := ⟨by rw [List.length_map]; exact h, fun d hd => by
  obtain ⟨s, _, rfl⟩ := List.mem_map.mp hd
  trivial⟩
end PW

set_option Elab.async false
set_option linter.all false
set_option autoImplicit false
set_option maxRecDepth 100000
set_option maxHeartbeats 4000000
set_option synthInstance.maxHeartbeats 2000000
set_option synthInstance.maxSize 1000000
namespace PW
open PySem PySem.Spec PyProof.Rows L2

/-! ### a set of texts, made out of a list and sorted at once -/
def TxE (w : World) (e : Int × Value) : Prop := ∃ (k : Str) (tk : Tok), e.2 = Value.str k tk ∧ e.1 = hashStr w k
def txK (e : Int × Value) : Str := match e.2 with
  | .str k _ => k
  | _ => Str.empty
def SetX (w : World) (h : Heap) (a : Addr) (ks : List Str) : Prop :=
  ∃ o es ep t, h.get? a = some o ∧ o.ExactSet ∧ o.data = Data.set es ep t ∧ (∀ e ∈ es.toList, TxE w e) ∧ (es.toList.map txK).Perm ks ∧ es.size < scanBound ∧ t.fits es.size = true ∧ Ris t.place.toList ∧ (w.params.followText "set-order" = true ∨ t.led = true)
def stepX (ks : List Str) (k : Str) : List Str := if k ∈ ks then ks else ks ++ [k]
section
variable {P : Program} {w : World} {A : Around} {E : Value → Shared → Prop} {s : Shared} {h h' : Heap} {a : Addr} {ks : List Str}
theorem isTx (k : Str) (u : Tok) : (strKind P w).is k (.str k u) = true := by
  show Value.isStrOf k (.str k u) = true
  simp [Value.isStrOf]
theorem TxE.is {e : Int × Value} (g : TxE w e) (k : Str) : (strKind P w).is k e.2 = true ↔ txK e = k := by
  obtain ⟨k0, tk, h1, _⟩ := g
  have hk : txK e = k0 := by unfold txK; rw [h1]
  rw [hk, h1]
  exact ⟨fun q => ((strKind P w).inj (.str k0 tk) k k0 q (isTx k0 tk)).symm, fun q => by rw [← q]; exact isTx k0 tk⟩
theorem txElems {l : List (Int × Value)} (g : ∀ e ∈ l, TxE w e) : ElemsOf (strKind P w) l := fun e he => by
  obtain ⟨k, tk, h1, h2⟩ := g e he
  exact ⟨⟨k, by rw [h1]; exact isTx k tk, h2⟩, by rw [h1]; rfl⟩
theorem SetX.at (R : SetX w h a ks) (k : ∀ o, h.get? a = some o → h'.get? a = some o) : SetX w h' a ks := by
  obtain ⟨o, es, ep, t, ho, r⟩ := R
  exact ⟨o, es, ep, t, k o ho, r⟩
/-- the end of an add: the new payload is stored, and laid anew where it is too full -/
theorem setX_tail {g : Bool → Sem Unit} (hg : ∀ (b : Bool) (s₁ : Shared) (Q' : Unit → Shared → Prop), Q' () s₁ → wpAny (model P w) A (g b) Q' E s₁) {o : Obj} {es : Array (Int × Value)} {ep : Nat} {t : SetTable}
    (ho : s.heap.get? a = some o) (hex : o.ExactSet) (hd : o.data = .set es ep t) {es1 : Array (Int × Value)} {t2 : SetTable} (g1 : ∀ e ∈ es1.toList, TxE w e) (p1 : (es1.toList.map txK).Perm ks)
    (hb1 : es1.size < scanBound) (hf2 : t2.fits es1.size = true) (hr : Ris t2.place.toList) (hl : w.params.followText "set-order" = true ∨ t2.led = true) {wd : Bool} {R : Option Bool → Shared → Prop}
    (hR : ∀ h', Heap.SameBut a s.heap h' → SetX w h' a ks → R (some true) { s with heap := h' }) :
    wpAny (model P w) A (storeSet a es1 t2 >>= fun _ => if (!wd && t2.tooFull) = true then (g (relayAll t2 es1 (SetTable.grown es1.size)).2.2 >>= fun _ => storeSet a (relayAll t2 es1 (SetTable.grown es1.size)).1 (relayAll t2 es1 (SetTable.grown es1.size)).2.1 >>= fun _ => pure (some true)) else pure (some true)) R E s := by
  have ho1 := store_at (es' := es1) (t' := t2) ho hd
  have sb1 := Heap.SameBut.update s.heap a (Obj.putSet es1 t2)
  refine wpAny_bind (wpAny_storeSet_of ho hd ?_ (fits_of_scanBound hb1)); split
  · have pm := relayAll_perm t2 es1 (SetTable.grown es1.size); have hf3 := relayAll_fits t2 es1 (SetTable.grown es1.size)
    have hr3 := relayAll_ris t2 es1 (SetTable.grown es1.size); have hl3 := relayAll_led t2 es1 (SetTable.grown es1.size)
    generalize relayAll t2 es1 (SetTable.grown es1.size) = Z at *
    obtain ⟨es2, t3, gv⟩ := Z; dsimp only at *
    have hsz : es2.size = es1.size := by have := pm.length_eq; simpa using this
    have hb2 : es2.size < scanBound := hsz ▸ hb1
    refine wpAny_bind (hg _ _ _ (wpAny_bind (wpAny_storeSet_of ho1 rfl ?_ (fits_of_scanBound hb2))))
    refine wpAny_pure (hR _ (sb1.trans (Heap.SameBut.update _ a _)) ⟨_, es2, _, t3, store_at (es' := es2) (t' := t3) ho1 rfl, hex, rfl, fun e he => g1 e (pm.mem_iff.mp he), (pm.map txK).trans p1, hb2, hf3, hr3, hl.imp id fun z => by rw [hl3]; exact z⟩)
  · exact wpAny_pure (hR _ sb1 ⟨_, es1, _, t2, ho1, hex, rfl, g1, p1, hb1, hf2, hr, hl⟩)
theorem setX_add {k : Str} {tk : Tok} {Q : Bool → Shared → Prop} (R : SetX w s.heap a ks) (room : ks.length + 1 < scanBound)
    (hQ : ∀ b h', Heap.SameBut a s.heap h' → SetX w h' a (stepX ks k) → Q b { s with heap := h' }) : wpAny (model P w) A (setAddHashed a (.str k tk) ((strKind P w).hash k)) Q E s := by
  obtain ⟨o, es, ep, t, ho, hex, hd, g, pm0, hb, hf, hr, hl⟩ := R
  have hel : ElemsOf (strKind P w) es.toList := txElems g
  have hsc : (Value.str k tk).scannable = true := rfl
  have memk : k ∈ ks ↔ ∃ e ∈ es.toList, (strKind P w).is k e.2 = true := by
    rw [← pm0.mem_iff, List.mem_map]
    exact ⟨fun ⟨e, he, q⟩ => ⟨e, he, ((g e he).is k).mpr q⟩, fun ⟨e, he, q⟩ => ⟨e, he, ((g e he).is k).mp q⟩⟩
  unfold setAddHashed setAddHashedIn
  refine wpAny_holding (wpAny_bind (wpAny_setState_of ho hd hf ?_)); dsimp only
  rw [byScan_of hsc hb hel]; simp only [↓reduceIte]
  unfold setAddByScan
  refine wpAny_bind (wpAny_bind (wpAny_rule (wpAny_bind (wpAny_setScan_of (isTx k tk) ho hd hf hel ?_))))
  cases hfi : List.findIdx? (fun e => (strKind P w).is k e.2) es.toList with
  | some j =>
    obtain ⟨hj, pj, _⟩ := List.findIdx?_eq_some_iff_getElem.mp hfi
    have hm : k ∈ ks := memk.mpr ⟨_, List.getElem_mem hj, pj⟩
    have hs : stepX ks k = ks := if_pos hm
    refine wpAny_pure (wpAny_pure ?_)
    exact hQ _ s.heap (Heap.SameBut.refl a s.heap) (by rw [hs]; exact ⟨o, es, ep, t, ho, hex, hd, g, pm0, hb, hf, hr, hl⟩)
  | none =>
    have hm : ¬ k ∈ ks := fun z => by
      obtain ⟨e, he, q⟩ := memk.mp z
      rw [List.findIdx?_eq_none_iff.mp hfi e he] at q; cases q
    have hs : stepX ks k = ks ++ [k] := if_neg hm
    have hgw : ∀ (b : Bool) {s₁ : Shared} {Q' : Unit → Shared → Prop}, Q' () s₁ → wpAny (model P w) A (match b with | true => rule "set.scan.the-table-gave-way" | false => pure ()) Q' E s₁ := fun b s₁ Q' q => by
      cases b
      · exact wpAny_pure q
      · exact wpAny_rule q
    have pm := layNew_perm t es ((strKind P w).hash k) (.str k tk); have hf1 := layNew_fits t es ((strKind P w).hash k) (.str k tk)
    have hr1 := layNew_ris t es ((strKind P w).hash k) (.str k tk) hr; have hl1 := layNew_led t es ((strKind P w).hash k) (.str k tk)
    dsimp only
    generalize layNew t es ((strKind P w).hash k) (.str k tk) = Z at *
    obtain ⟨es1, t1, wd, gv⟩ := Z; dsimp only at *
    rw [Array.toList_push] at pm
    have g1 : ∀ e ∈ es1.toList, TxE w e := fun e he => by
      rcases List.mem_append.mp (pm.mem_iff.mp he) with z | z
      · exact g e z
      · rw [List.mem_singleton.mp z]; exact ⟨k, tk, rfl, rfl⟩
    have p1 : (es1.toList.map txK).Perm (stepX ks k) := by
      have q := pm.map txK
      rw [List.map_append] at q
      rw [hs]
      exact q.trans (pm0.append_right [k])
    have hb1 : es1.size < scanBound := by
      have := p1.length_eq
      rw [hs] at this
      simp at this
      omega
    have hled : w.params.followText "set-order" = true ∨ t1.led = true := hl.imp id fun z => by rw [hl1]; exact z
    refine wpAny_bind (hgw _ ?_); split
    · refine wpAny_bind ?_
      rw [hashByValue_scannable 8 hsc]
      refine wpAny_pure (setX_tail (fun b s₁ Q' q => hgw b q) ho hex hd g1 p1 hb1 ?_ ?_ ?_ fun h' sb r => wpAny_pure (hQ _ h' sb r))
      · split
        · exact SetTable.fits_plain_off hf1
        · exact hf1
      · split <;> exact hr1
      · split <;> exact hled
    · refine wpAny_bind (wpAny_pure ?_)
      simp only [↓reduceIte]
      exact setX_tail (fun b s₁ Q' q => hgw b q) ho hex hd g1 p1 hb1 hf1 hr1 hled fun h' sb r => wpAny_pure (hQ _ h' sb r)
theorem stepX_nodup {k : Str} (h : ks.Nodup) : (stepX ks k).Nodup := by
  unfold stepX; split
  · exact h
  · rename_i hk
    exact List.nodup_append.mpr ⟨h, by simp, fun x hx y hy e => hk (by rw [List.mem_singleton.mp hy] at e; rw [← e]; exact hx)⟩
theorem stepX_mem {k x : Str} : x ∈ stepX ks k ↔ x ∈ ks ∨ x = k := by
  unfold stepX; split
  · rename_i hk
    exact ⟨.inl, fun z => z.elim id fun e => by rw [e]; exact hk⟩
  · rw [List.mem_append, List.mem_singleton]
theorem stepX_len {k : Str} : (stepX ks k).length ≤ ks.length + 1 := by
  unfold stepX; split <;> simp
def GotX (w : World) (h : Heap) (a : Addr) (xs : List Str) : Prop := ∃ ks : List Str, ks.Nodup ∧ (∀ x, x ∈ ks ↔ x ∈ xs) ∧ ks.length ≤ xs.length ∧ SetX w h a ks
variable {I : Addr} {fp wr : List Addr} {G : Array GenState → Array GenState → Prop} {n : Nat} {Pv : Nat → Value → Prop} {St : Nat → Shared → Prop} {R : Result → Shared → Prop}
theorem setX_loop (W : WalksS P w A.in1 I fp wr G n Pv St) (hSf : a ∉ fp) (xs : List Str) (hn : xs.length = n) (hval : ∀ i v, Pv i v → ∃ t, v = .str (xs.getD i Str.empty) t) (hb : n + 1 < scanBound) :
    ∀ (k i : Nat) (s : Shared), n - i = k → i ≤ n → St i s → GotX w s.heap a (xs.take i) → (∀ s', Moved (a :: wr) G s s' → GotX w s'.heap a xs → R (.ok (.ret .none)) s') →
      codeAny (model P w) A (.builtin "set.update.loop" ⟨[.ref a, .ref I], []⟩) R s := by
  have hSw : a ∉ wr := fun z => hSf (W.sub _ z)
  have hsub : ∀ b ∈ wr, b ∈ a :: wr := fun b z => List.mem_cons_of_mem _ z
  intro k
  induction k with
  | zero =>
    intro i s hk hi hst ⟨ks, h1, h2, h3, h4⟩ hR
    obtain rfl : i = n := by omega
    refine codeAny_builtin PyProof.Rows.F.entry_set_update_loop ?_
    rw [Around.under_plainId PyProof.Rows.F.plain_set_update_loop _]
    show wpAny _ A.in1 (pyNext (.ref I) >>= _) _ _ s
    refine wpAny_bind (W.done s _ _ hst fun s' hm => (?_ : wpAny _ A.in1 (ret Value.none) _ _ s'))
    rw [← hn, List.take_length] at h2 h3
    exact wpAny_pure (hR s' (hm.mono hsub) ⟨ks, h1, h2, h3, h4.at fun o e => hm.heap a o hSw e⟩)
  | succ k ih =>
    intro i s hk hi hst ⟨ks, h1, h2, h3, h4⟩ hR
    have hlt : i < n := by omega
    have hx : xs[i]? = some (xs.getD i Str.empty) := by rw [List.getD_eq_getElem?_getD, List.getElem?_eq_getElem (by omega)]; rfl
    refine codeAny_builtin PyProof.Rows.F.entry_set_update_loop ?_
    rw [Around.under_plainId PyProof.Rows.F.plain_set_update_loop _]
    show wpAny _ A.in1 (pyNext (.ref I) >>= _) _ _ s
    refine wpAny_bind (W.item i s _ _ hlt hst fun v s' hP hst' hm => ?_)
    obtain ⟨t, rfl⟩ := hval i v hP
    have h5 : SetX w s'.heap a ks := h4.at fun o e => hm.heap a o hSw e
    rw [List.length_take] at h3
    show wpAny _ A.in1 (holding [Value.str (xs.getD i Str.empty) t] (setAdd a (.str (xs.getD i Str.empty) t)) >>= _) _ _ s'
    refine wpAny_bind (wpAny_holding ?_); unfold setAdd
    refine wpAny_holding (wpAny_bind ((strKind P w).pyHash (k := xs.getD i Str.empty) (isTx _ _) ?_))
    refine setX_add (s := { s' with toks := s'.toks + 1 }) h5 (by omega) fun b h' hsb h6 => ?_
    have hg : GotX w h' a (xs.take (i + 1)) := ⟨_, stepX_nodup h1, fun x => by rw [stepX_mem, h2, take_snoc hx, List.mem_append, List.mem_singleton], by rw [List.length_take]; have := stepX_len (ks := ks) (k := xs.getD i Str.empty); omega, h6⟩
    refine wpAny_pure ⟨plainId_quiet PyProof.Rows.F.plain_set_update_loop _, ih (i + 1) _ (by omega) hlt (W.frame _ s' _ _ hst' (Nat.le_succ _) fun b hb o e => ?_) hg fun s'' hm'' hS'' => hR s'' (Moved.trans W.gtrans ((hm.mono hsub).then_heap (Nat.le_succ _) fun b o hb e => ?_) hm'') hS''⟩
    · rw [hsb.2 b (fun z : b = a => hSf (by rw [← z]; exact hb))]; exact e
    · rw [hsb.2 b (fun z : b = a => hb (by rw [z]; exact List.mem_cons_self))]; exact e
abbrev freshX (w : World) : Obj := { cls := .type "set", dict := none, data := .set #[] 0 (.fresh 0 0 (!w.params.followText "set-order")) }
theorem code_setX (v : Value) {Q₁ : Value → Shared → Prop} (h : Q₁ (.ref s.heap.objs.size) { s with heap := s.heap.push (freshX w) }) :
    codeAny (model P w) A (.call (.builtin "set.__new__") ⟨[.type "set", v], []⟩) (wants Q₁ E) s := by
  refine codeAny_of_tree (?_ : wpAny _ A.in1 (checkBuiltinCall "set.__new__" ⟨[.type "set", v], []⟩ >>= fun _ => again (.builtin "set.__new__" ⟨[.type "set", v], []⟩)) _ _ s)
  refine wpAny_bind (wpAny_of_eq (PySem.F.newCall_set_1 v) (wpAny_pure ⟨plainId_quiet PySem.F.plain_set_new _, codeAny_builtin PySem.F.entry_set_new ?_⟩))
  rw [Around.under_plainId PySem.F.plain_set_new _]
  unfold Builtin.«set.__new__» Builtin.Frozenset.newClass
  have hsub := sub_set_self
  obtain ⟨hp, g, d, tk, os⟩ := s
  dsimp only
  wp_walk
  refine wpAny_askSetting (wpAny_pure ?_); dsimp only
  simp only [newObj]
  exact wpAny_bind (wpAny_alloc (wpAny_pure (wpAny_pure h)))
theorem setX_fresh {h : Heap} : GotX w (h.push (freshX w)) h.objs.size [] := ⟨[], .nil, fun x => Iff.rfl, Nat.le_refl _, _, #[], 0, _, Heap.get?_push_size _ rfl, ⟨rfl, rfl, rfl⟩, rfl, fun e he => by simp at he, by simp, by decide, by rfl, List.Pairwise.nil, by
  show _ ∨ (!w.params.followText "set-order") = true
  cases w.params.followText "set-order"
  · exact .inr rfl
  · exact .inl rfl⟩
theorem strs_get : ∀ {us : List Value} {xs : List Str}, Vals (xs.map V.str) us → ∀ (i : Nat) (v : Value), us[i]? = some v → ∃ t, v = .str (xs.getD i Str.empty) t
  | _, [], .nil, i, v, z => by simp at z
  | _, x :: xs, .cons r rest, 0, v, z => by
    obtain ⟨t, rfl⟩ := r
    exact ⟨t, (Option.some.inj z).symm⟩
  | _, x :: xs, .cons r rest, i + 1, v, z => by
    rw [List.getElem?_cons_succ] at z
    obtain ⟨t, e⟩ := strs_get rest i v z
    exact ⟨t, by rw [e]; rfl⟩
set_option maxHeartbeats 8000000 in
/-- set(a list of texts) -/
theorem setX_list {l : Addr} {items : Array Value} {xs : List Str} {Q : Value → Shared → Prop} (hh : A.handled = none) (hl : s.heap.IsList l items) (hi : Vals (xs.map V.str) items.toList) (hb : xs.length + 1 < scanBound)
    (hq : ∀ (h' : Heap) (tk : Nat), GotX w h' s.heap.objs.size xs → (∀ b o, b < s.heap.objs.size → s.heap.get? b = some o → h'.get? b = some o) → Q (.ref s.heap.objs.size) { s with heap := h', toks := tk }) :
    wpAny (model P w) A (call (.type "set") [.ref l]) Q E s := by
  have hsz : items.size = xs.length := by have := hi.length; simpa using this.symm
  obtain ⟨cm, tl, hmro⟩ := PySem.F.called_set.mro
  have hmade := PySem.F.called_set.made; have hsub := PySem.F.called_set.sub
  refine wpAny_call (codeAny_of_tree (?_ : wpAny _ _ (callAny (.type "set") _) _ _ _))
  refine wpAny_pure ⟨Code.quiet_builtin _ (by decide +kernel), codeAny_builtin PySem.F.entry_type_call ?_⟩
  rw [Around.under_plain (weight_type_call_type "set" [.ref l] []) rfl]
  have h1 := PySem.F.called_set.notType; have h2 := PySem.F.called_set.canCreate; have hct := PySem.F.typeCall_set_1 (.ref l)
  repeat (any_goals (first | assumption | wp_step))
  refine codeAny_mono (code_setX (.ref l) (E := E) (Q₁ := fun obj s₁ => obj = .ref s.heap.objs.size ∧ s₁ = { s with heap := s.heap.push (freshX w) }) ⟨rfl, rfl⟩) fun r s₁ hr => ?_
  cases r with
  | error e => exact hr
  | ok fl =>
    cases fl with
    | ret obj =>
      obtain ⟨rfl, rfl⟩ := hr
      have hS : (s.heap.push (freshX w)).get? s.heap.objs.size = some (freshX w) := Heap.get?_push_size _ rfl
      have hT : Shared.TypeIs { s with heap := s.heap.push (freshX w) } (.ref s.heap.objs.size) "set" := ⟨_, hS, rfl⟩
      have hli := PySem.F.called_set.init.lookup; have hbi := PySem.F.called_set.init.bind (.ref s.heap.objs.size)
      repeat (any_goals (first | assumption | wp_step))
      refine codeAny_mono (codeAny_call_builtin (R := wants (fun r s₂ => r = .none ∧ ∃ h' tk, s₂ = { s with heap := h', toks := tk } ∧ GotX w h' s.heap.objs.size xs ∧ (∀ b o, b < s.heap.objs.size → s.heap.get? b = some o → h'.get? b = some o)) E)
        PySem.F.called_set.init.plain PySem.F.entry_set_init (check_set_init_1 hT ?_)) fun r₂ s₂ hr₂ => ?_
      · obtain ⟨ol, hol, hcl, nl, hdl⟩ := hl
        obtain ⟨ocls, odict, odata, oslots⟩ := ol
        simp only at hcl hdl; subst hcl; subst hdl
        have hol' : (s.heap.push (freshX w)).get? l = some { cls := .type "list", dict := odict, data := .seq items nl, slots := oslots } := Heap.get?_push_of_some _ hol
        have hsls := PySem.F.sub_list_set; have hslf := PySem.F.sub_list_frozenset
        have hne : (Value.type "list" == Value.type "dict") = false := by decide
        have hl1 : (s.heap.push (freshX w)).IsList l items := ⟨_, hol', rfl, nl, rfl⟩
        unfold Builtin.«set.__init__» noKeywords Builtin.Frozenset.updateFrom
        generalize hPI : pyIter = PI
        wp_walk
        subst hPI
        refine wpAny_pyIter_list hl1 (wpAny_bind (wpAny_runValue ?_))
        have hlS : l < s.heap.objs.size := Heap.lt_size hol
        have hz : (s.heap.push (freshX w)).objs.size = s.heap.objs.size + 1 := Heap.size_push _ _
        have hh3 : A.in1.in1.in1.handled = none := by simp [hh]
        refine setX_loop (a := s.heap.objs.size) (n := items.size) ((Walks.list hh3 _ l (by rw [hz]; exact Nat.ne_of_lt (Nat.lt_succ_of_lt hlS)) items).toS) (by rw [hz]; simp only [List.mem_cons, List.not_mem_nil, or_false, not_or]; exact ⟨Nat.ne_of_lt (Nat.lt_succ_self _), Nat.ne_of_gt hlS⟩) xs hsz.symm
          (fun i v hv => strs_get hi i v (by rw [Array.getElem?_toList]; exact hv)) (by omega) (items.size - 0) 0 _ (by omega) (Nat.zero_le _) ⟨⟨_, Heap.get?_push_size _ rfl, rfl, rfl⟩, (hl1.push _)⟩ ?hS0 ?hR
        case hS0 =>
          obtain ⟨ks, k1, k2, k3, k4⟩ := setX_fresh (w := w) (h := s.heap)
          exact ⟨ks, k1, k2, k3, k4.at fun o e => Heap.get?_push_of_some _ e⟩
        case hR =>
          intro s' hm hS'
          obtain ⟨h', g', d', tk', os'⟩ := s'
          have eg : g' = s.gens := hm.gens
          have ed : d' = s.drawn := hm.drawn
          have eo : os' = s.os := hm.os
          subst eg; subst ed; subst eo
          show wpAny _ _ _ _ _ _
          refine wpAny_pure (?_ : wpAny _ _ (ret Value.none) _ _ _)
          refine wpAny_pure ⟨rfl, h', tk', rfl, hS', fun b o hb e => hm.heap b o ?_ (Heap.get?_push_of_some _ (Heap.get?_push_of_some _ e))⟩
          rw [hz]; simp only [List.mem_cons, List.not_mem_nil, or_false, not_or]; exact ⟨Nat.ne_of_lt hb, Nat.ne_of_lt (Nat.lt_succ_of_lt hb)⟩
      · cases r₂ with
        | error e => exact hr₂
        | ok fl₂ =>
          cases fl₂ with
          | ret r =>
            obtain ⟨rfl, h', tk, rfl, hS', hk'⟩ := hr₂
            repeat (any_goals (first | assumption | wp_step))
            exact hq _ _ hS' hk'
          | _ => exact hr₂.elim
    | _ => exact hr.elim
end
end PW

set_option Elab.async false
set_option linter.all false
set_option autoImplicit false
set_option maxRecDepth 100000
set_option maxHeartbeats 4000000
set_option synthInstance.maxHeartbeats 2000000
set_option synthInstance.maxSize 1000000
namespace PW
open PySem PySem.Spec PyProof.Rows L2
section
variable {P : Program} {w : World} {A : Around} {E : Value → Shared → Prop} {s : Shared} {a : Addr}
abbrev IsTx : Value → Str → Prop := fun v k => ∃ t, v = .str k t
theorem txE_each : ∀ {l : List (Int × Value)}, (∀ e ∈ l, TxE w e) → PySem.W.EachIs IsTx (l.map (·.2)) (l.map txK)
  | [], _ => .nil
  | e :: l, g => .cons (by
      obtain ⟨k, tk, h1, _⟩ := g e List.mem_cons_self
      exact ⟨tk, by show e.2 = _; unfold txK; rw [h1]⟩) (txE_each fun e' he => g e' (List.mem_cons_of_mem _ he))
theorem each_perm {vs us : List Value} (p : vs.Perm us) : ∀ {bs : List Str}, PySem.W.EachIs IsTx us bs → ∃ cs, cs.Perm bs ∧ PySem.W.EachIs IsTx vs cs := by
  induction p with
  | nil => intro bs h; exact ⟨bs, .refl _, h⟩
  | cons x _ ih =>
    intro bs h
    cases h with
    | cons r t =>
      obtain ⟨cs, hp, hc⟩ := ih t
      exact ⟨_ :: cs, hp.cons _, .cons r hc⟩
  | swap x y l =>
    intro bs h
    cases h with
    | cons r t =>
      cases t with
      | cons r2 t2 => exact ⟨_ :: _ :: _, .swap _ _ _, .cons r2 (.cons r t2)⟩
  | trans _ _ ih1 ih2 =>
    intro bs h
    obtain ⟨cs, hp, hc⟩ := ih2 h
    obtain ⟨ds, hp2, hd⟩ := ih1 hc
    exact ⟨ds, hp2.trans hp, hd⟩
abbrev leT (x y : Str) : Bool := PySem.W.dataLe false PyData.str x y
/-- sorted(a set of texts) -/
theorem sortX {xs : List Str} {Q : Value → Shared → Prop} (G : GotX w s.heap a xs) (hh : A.handled = none) (hu : A.units + 8 < cLine)
    (hQ : ∀ (s' : Shared) (p : Addr) (out : Array Value) (c : Nat) (bs : List Str), (∀ b o, s.heap.get? b = some o → s'.heap.get? b = some o) → s'.gens = s.gens → s'.os = s.os → s.heap.objs.size ≤ p →
      s'.heap.get? p = some (seqObj "list" out c) → PySem.W.EachIs IsTx out.toList bs → bs.Nodup → (∀ k, k ∈ bs ↔ k ∈ xs) → bs.Pairwise (fun x y => leT x y = true) → bs.length < scanBound → Q (.ref p) s') :
    wpAny (model P w) A (call (.builtin "sorted") [.ref a]) Q E s := by
  obtain ⟨ks, k1, k2, k3, o, es, ep, t, ho, hex, hd, g, pm0, hb, hf, hr, hl⟩ := G
  refine Calls.call_function_entry kind_sorted plain_sorted entry_sorted (args_sorted1 _) ?_
  unfold Builtin.«sorted»
  refine wpAny_bind (m := checkCount "sorted" 1 1 _) (wpAny_pure ?_)
  refine wpAny_bind (collect_set (A := A.in1) hh ⟨o, ho, hex.1, hd⟩ hf hb hr hl fun s1 vs hk1 hz g1 o1 pm => ?_)
  obtain ⟨bs, hpb, heb⟩ := each_perm pm (txE_each g)
  have pk : bs.Perm ks := hpb.trans pm0
  have hlen : bs.length = vs.length := heb.length.symm
  have hbl : bs.length < scanBound := by have := pm0.length_eq; have := pk.length_eq; simp at *; omega
  have hsl : vs.length ≤ sizeLine := by rw [sizeLine_eq, ← hlen]; unfold scanBound at hbl; omega
  refine wpAny_bind (wpAny_newList ?_ hsl)
  have hoL : (s1.heap.push (seqObj "list" vs.toArray 0)).get? s1.heap.objs.size = some (seqObj "list" vs.toArray 0) := Heap.get?_push_size _ rfl
  refine wpAny_bind (wpAny_holding (PySem.W.list_sort_data (R := IsTx) (enc := PyData.str) (bs := bs) (vs := vs) hoL heb (heb.mono fun v k ⟨t, e⟩ => ⟨[], by rw [e]; exact .str k t, by simp⟩)
    (PySem.W.AllAlike.of fun _ _ => rfl) (PySem.W.Sortable.others fun _ => ⟨by simp, by simp⟩) (by rw [hlen]; exact hsl) (fun b _ => ?_) fun out hol heo => ?_))
  · have e1 : A.in1.units ≤ A.units + 1 := by
      show A.in1.units ≤ _
      first | (simp [Around.in1]; done) | (unfold Around.in1; dsimp only; omega)
    show A.in1.units + 1 + 0 < cLine
    omega
  · obtain ⟨c, hc⟩ := sortedHeap_at (vs := vs) (out := out.toArray) hoL
    have T : PySem.W.TotalLe leT := PySem.W.sortLe_total (PyProof.Rows.listOrd PyProof.Rows.itemOrd) false (fun k : Str => PySem.W.keyToks (PyData.str k))
    have pms := List.mergeSort_perm bs leT
    refine wpAny_pure ⟨_, rfl, hQ { s1 with heap := sortedHeap (s1.heap.push (seqObj "list" vs.toArray 0)) s1.heap.objs.size vs out.toArray } s1.heap.objs.size out.toArray c (bs.mergeSort leT) (fun b u e => ?_) g1 o1 hz hc heo (pms.nodup_iff.mpr (pk.nodup_iff.mpr k1)) (fun k => by rw [pms.mem_iff, pk.mem_iff, k2])
      (List.pairwise_mergeSort T.trans (fun a b => by rcases T.total a b with h | h <;> simp [h]) bs) (by rw [pms.length_eq]; exact hbl)⟩
    have q := hk1 b u e
    have hlt := Heap.lt_size q
    show (sortedHeap (s1.heap.push (seqObj "list" vs.toArray 0)) s1.heap.objs.size vs out.toArray).get? b = some u
    rw [sortedHeap_old (Nat.ne_of_lt hlt) (by rw [size_push']; exact Nat.lt_succ_of_lt hlt)]
    exact Heap.get?_push_of_some _ q
end
/-! ### sorted(set(e)), e a list of texts -/
def txD (d : D) : Str := match d with
  | .str l => mkS l
  | _ => Str.empty
def allTx (l : List D) : Prop := ∀ d ∈ l, ∃ s, d = .str s
/-- any list with the same members, each once, that rises -/
def SetSort (l m : List D) : Prop := m.Nodup ∧ (∀ d, d ∈ m ↔ d ∈ l) ∧ m.Pairwise (fun x y => leD x y = true)
def wSortSet (x : D) (Q : B → Prop) : Prop := match x with
  | .lst l => (allTx l ∧ l.length < 4000) ∧ ∀ m, SetSort l m → m.length ≤ l.length → Q (.own (.lst m))
  | _ => False
def rSetSort (K : PySem.W.Frag) : V → Hp → VK → Prop := fun x H Q => ∃ (l : Addr) (xs : List Str), x = V.ref l ∧ SqL K H l (xs.map V.str) ∧ xs.length < 4000 ∧
  ∀ (p : Addr) (bs : List Str), H p = none → bs.Nodup → (∀ k, k ∈ bs ↔ k ∈ xs) → bs.Pairwise (fun x y => leT x y = true) → bs.length < scanBound → Q (.ref p) (upd H p (.lst (bs.map V.str)))
def tSortSet (K : PySem.W.Frag) (ta : TE) : TE := fun σ H Q => ta σ H fun x H1 => rSetSort K x H1 Q
theorem isTx_vals : ∀ {us : List Value} {bs : List Str}, PySem.W.EachIs IsTx us bs → Vals (bs.map V.str) us
  | _, _, .nil => .nil
  | _, _, .cons r t => .cons r (isTx_vals t)
section
variable {X : Cx}
theorem pe_sortSet {a : Expr} {ta : TE} {p p2 q pos : Pos} (hc : X.calm = true) (hu : X.A.units + 70 < cLine) (hg : Gl X "sorted") (hm : X.mg "sorted" = none) (hb : bootBuiltins "sorted" = some (.builtin "sorted")) (hg2 : Gl X "set") (hm2 : X.mg "set" = none) (hb2 : bootBuiltins "set" = some (.type "set")) (ha : PE X a ta)
    (na : starEach [a] X.env = (false, eval a X.env) :: starEach [] X.env := by rfl) : PE X (.Call (.Name "sorted" p) [.Call (.Name "set" p2) [a] [] q] [] pos) (tSortSet X.K ta) := by
  refine ⟨fun pins s σ H Q I h => ?_⟩
  refine Call_ (ld_blt I hg hm hb (PyProof.Rows.callWith_builtin1 (PyProof.Rows.args_cons ?_ rfl) rfl rfl))
  refine Call_ (ld_blt I hg2 hm2 hb2 (PyProof.Rows.callWith_type1 (PyProof.Rows.args_cons (thn (ha.run pins s σ H _ I h) fun v s1 ⟨x, H1, I1, r1, q1⟩ => PyProof.Rows.args_nil ?_) na) na rfl))
  obtain ⟨l, xs, rfl, hq, h1, q1⟩ := q1
  cases r1
  obtain ⟨its, r, pl, hz⟩ := I1.list hq
  refine setX_list (P := X.prog) (w := X.w) (xs := xs) (I1.ok.hd hc) pl.isList (by simpa using r) (by unfold scanBound; omega) fun h' tk G hk => PyProof.Rows.args_nil ?_
  have I2 : Inv X pins σ H1 { s1 with heap := h', toks := tk } := I1.kept fun b o e => hk b o (Heap.lt_size e) e
  have G2 : GotX X.w ({ s1 with heap := h', toks := tk } : Shared).heap s1.heap.objs.size xs := G
  generalize ({ s1 with heap := h', toks := tk } : Shared) = s2 at I2 G2 ⊢
  refine sortX (s := s2) G2 (I1.ok.hd hc) (by omega) fun s' p out c bs k g o hp hg he nd mem pw hlt => ?_
  have hn : H1 p = none := I2.hok.fresh hp
  have hlen : (bs.map V.str).length ≤ sizeLine := by rw [List.length_map, sizeLine_eq]; unfold scanBound at hlt; omega
  have J : Inv X pins σ (upd H1 p (.lst (bs.map V.str))) { s2 with heap := s'.heap, gens := s'.gens, drawn := s'.drawn, toks := s'.toks } :=
    I2.call (ch := []) (Un.laid k hp hn) (I2.hok.laid k hp ⟨hlen, out.toList, c, isTx_vals he, hg⟩) (by rw [g]; exact I2.bare) (fun _ z => nomatch z)
  have e : s' = { s2 with heap := s'.heap, gens := s'.gens, drawn := s'.drawn, toks := s'.toks } := by
    obtain ⟨a1, a2, a3, a4, a5⟩ := s'; cases o; rfl
  rw [e]
  exact ⟨.ref p, _, J, rfl, q1 p bs hn nd mem pw hlt⟩
end
theorem nodup_len {α : Type} [DecidableEq α] : ∀ {l m : List α}, l.Nodup → (∀ x ∈ l, x ∈ m) → l.length ≤ m.length
  | [], _, _, _ => Nat.zero_le _
  | x :: l, m, h, s => by
    obtain ⟨h1, h2⟩ := List.nodup_cons.mp h
    have hx := s x List.mem_cons_self
    have ih := nodup_len (m := m.erase x) h2 fun y hy => (List.mem_erase_of_ne (fun (e : y = x) => h1 (by rw [← e]; exact hy))).mpr (s y (List.mem_cons_of_mem _ hy))
    rw [List.length_erase_of_mem hx] at ih
    have := List.length_pos_of_mem hx
    rw [List.length_cons]
    omega
def unS (k : Str) : D := .str k.cps.toList
theorem unS_mk (k : Str) : mkS k.cps.toList = k := by cases k; rfl
theorem unS_inj {a b : Str} (h : unS a = unS b) : a = b := by
  have e : a.cps.toList = b.cps.toList := by injection h
  rw [← unS_mk a, e, unS_mk]
theorem allTx_of : ∀ {l : List D}, allTx l → ∃ xs : List Str, l = xs.map unS
  | [], _ => ⟨[], rfl⟩
  | d :: l, h => by
    obtain ⟨s, rfl⟩ := h d List.mem_cons_self
    obtain ⟨xs, rfl⟩ := allTx_of fun e he => h e (List.mem_cons_of_mem _ he)
    exact ⟨mkS s :: xs, rfl⟩
theorem leD_unS (a b : Str) : leD (unS a) (unS b) = leT a b := by
  show PySem.W.dataLe false D.py _ _ = PySem.W.dataLe false PyData.str _ _
  rw [PySem.W.dataLe_eq, PySem.W.dataLe_eq]
  have e : ∀ k, (unS k).py = PyData.str k := fun k => by unfold unS; simp only [D.py]; try rw [unS_mk]
  simp only [e]
section
variable {K : PySem.W.Frag}
theorem repl_unS {F : Hp} : ∀ {vs : List V} {xs : List Str}, RepL K F vs (xs.map unS) → vs = xs.map V.str
  | [], [], _ => rfl
  | v :: vs, x :: xs, h => by
    cases h with
    | cons a b =>
      have := repl_unS b
      subst this
      unfold unS at a
      cases a
      rw [unS_mk, List.map_cons]
  | [], _ :: _, h => by cases h
  | _ :: _, [], h => by cases h
theorem unS_repl {F : Hp} : ∀ xs : List Str, RepL K F (xs.map V.str) (xs.map unS)
  | [] => .nil
  | x :: xs => .cons (by have := Rep.str (K := K) (F := F) x.cps.toList; rw [unS_mk] at this; exact this) (unS_repl xs)
theorem k_sortSet : Op1Ok K (rSetSort K) wSortSet := by
  intro O G F σ H E x dx Q Q' r hx q k
  cases dx with
  | lst l =>
    obtain ⟨⟨al, l4⟩, q⟩ := q
    obtain ⟨xs, rfl⟩ := allTx_of al
    obtain ⟨a, vs, rfl, h1, p⟩ := hx.lst r.f
    obtain rfl := repl_unS p
    refine ⟨a, xs, rfl, SqL.of h1, by rw [List.length_map] at l4; exact l4, fun c bs hc nd mem pw hlt => ?_⟩
    refine k _ _ (.lst r hc (ds := bs.map unS) (unS_repl bs) (q _ ⟨?_, ?_, ?_⟩ ?_))
    · exact List.Pairwise.map _ (fun a b hne e => hne (unS_inj e)) nd
    · intro d
      rw [List.mem_map, List.mem_map]
      exact ⟨fun ⟨y, hy, e⟩ => ⟨y, (mem y).mp hy, e⟩, fun ⟨y, hy, e⟩ => ⟨y, (mem y).mpr hy, e⟩⟩
    · exact List.Pairwise.map _ (fun a b h => by rw [leD_unS]; exact h) pw
    · rw [List.length_map, List.length_map]
      exact nodup_len nd fun y hy => (mem y).mp hy
  | _ => exact (show False from q).elim
end
section
variable {X : Cx}
theorem ed_sortSet {a : Expr} {wo : WO} {p p2 q pos : Pos} (hc : X.calm = true) (hu : X.A.units + 70 < cLine) (hg : Gl X "sorted") (hm : X.mg "sorted" = none) (hb : bootBuiltins "sorted" = some (.builtin "sorted")) (hg2 : Gl X "set") (hm2 : X.mg "set" = none) (hb2 : bootBuiltins "set" = some (.type "set")) (ha : OD X a wo)
    (na : starEach [a] X.env = (false, eval a X.env) :: starEach [] X.env := by rfl) : ED X (.Call (.Name "sorted" p) [.Call (.Name "set" p2) [a] [] q] [] pos) (wUn wSortSet wo) :=
  ed_of (pe_sortSet hc hu hg hm hb hg2 hm2 hb2 ha na) (ok_un k_sortSet)
end
section
variable {P : B → Prop} {l : List D} {ss : List (List Nat)} {RM : List D → Prop}
instance [e : ∀ m, Ev (P (.own (.lst m))) (RM m)] : Ev (wSortSet (.lst l) P) ((allTx l ∧ l.length < 4000) ∧ ∀ m, SetSort l m → m.length ≤ l.length → RM m) := ⟨fun h => ⟨h.1, fun m hm hl => (e m).h (h.2 m hm hl)⟩⟩
end
end PW

set_option Elab.async false
set_option linter.all false
set_option autoImplicit false
set_option maxRecDepth 100000
set_option maxHeartbeats 4000000
set_option synthInstance.maxHeartbeats 2000000
set_option synthInstance.maxSize 1000000
set_option exponentiation.threshold 5000
namespace PW
open PySem PySem.Spec PyProof.Rows L2
local macro_rules | `(tactic| walk_at "sta") => `(tactic| with_reducible repeat (first | exact StaR.z | apply StaR.c | apply StaR.n))
local macro_rules | `(tactic| walk_at "start") => `(tactic| with_reducible first | refine LF2 (by walk_at "sta") ?_ | refine LF1 (by walk_at "sta") ?_ | refine LF3 (by walk_at "sta") ?_ | refine LF4 (by walk_at "sta") ?_ | refine LF0 (by walk_at "sta") ?_ | refine LF5 (by walk_at "sta") ?_ | refine LF6 (by walk_at "sta") ?_ | refine LP0 (by walk_at "sta") ?_ | refine LP1 (by walk_at "sta") ?_ | refine LP2 (by walk_at "sta") ?_ | refine LP3 (by walk_at "sta") ?_)
/-! ### systems of words -/
abbrev Wo := List Nat
abbrev Sy := List (Wo × Wo)
def enc (q : Wo × Wo) : D := .tup [.str q.1, .str q.2]
abbrev sysD (S : Sy) : D := .lst (S.map enc)
def abc (w : Wo) : Prop := ∀ c ∈ w, c = 97 ∨ c = 98 ∨ c = 99
theorem abc.ok {w : Wo} (h : abc w) : okS w := fun c hc => by rcases h c hc with e | e | e <;> subst e <;> decide
theorem abc_app {a b : Wo} (h : abc a) (h' : abc b) : abc (a ++ b) := fun c hc => by
  rcases List.mem_append.mp hc with z | z
  · exact h c z
  · exact h' c z
def SyF (mx : Nat) (S : Sy) : Prop := ∀ q ∈ S, 1 ≤ q.1.length ∧ q.1.length ≤ mx ∧ q.2.length ≤ q.1.length ∧ abc q.1 ∧ abc q.2
def LtOk (ss : List Wo) : Prop := ss ≠ [] ∧ ss.length ≤ 10 ∧ ∀ s ∈ ss, s.length = 1 ∧ abc s
def one1 (w : Wo) (q : Wo × Wo) (at_ : Nat) : Option Wo := if (w.drop at_).take q.1.length = q.1 then some (w.take at_ ++ q.2 ++ w.drop (at_ + q.1.length)) else none
def cand1 (w : Wo) (q : Wo × Wo) : List Wo := (List.range (w.length + 1 - q.1.length)).filterMap (one1 w q)
def cand (S : Sy) (w : Wo) : List Wo := S.flatMap (cand1 w)
def f__law_word : D → D → D → (B → D → Prop) → Prop := fun p m L P => isPool p ∧ ∃ (n : Nat) (ss : List Wo), m = .int n ∧ n ≤ 10 ∧ L = .lst (ss.map D.str) ∧ LtOk ss ∧ ∀ s d', s.length ≤ n → abc s → (∀ c ∈ s, [c] ∈ ss) → isPool d' → P (.dat (.str s)) d'
def f__law_system : D → D → D → (B → D → Prop) → Prop := fun p m k P => isPool p ∧ ∃ n mx : Nat, m = .int n ∧ n ≤ 10 ∧ k = .int mx ∧ 1 ≤ mx ∧ mx ≤ 4 ∧ ∀ S d', SyF mx S → S.length ≤ n → isPool d' → P (.own (sysD S)) d'
def f__law_steps : D → D → (B → Prop) → Prop := fun s a P => ∃ S w, s = sysD S ∧ a = .str w ∧ SyF 4 S ∧ S.length ≤ 10 ∧ w.length ≤ 40 ∧ ∀ L : List Wo, (∀ x, x ∈ L ↔ x ∈ cand S w) → L.Nodup → L.length ≤ 500 → P (.own (.lst (L.map D.str)))
def N__law_word : Nat := 5
-- 0:pool 1:most 2:letters 3:text 4:k
def w__law_word : WS :=
  (sSeq (sSet 3 (wC (.str [])))
  (sSeq (sFor (iR1 (wCallP 0 (ps1 f__law_draw) (aC (wOp wAdd (oV 1) (oE (wC (.int 1)))) aN))) (gN 4) (sSet 3 (wOp wAdd (oV 3) (oE (wCallP 0 (ps1 f__law_pick) (aC (wV 2) aN))))))
  (sRet (wM 3))))
def N__law_system : Nat := 8
-- 0:pool 1:many 2:most 3:letters 4:found 5:k 6:left 7:right
def w__law_system : WS :=
  (sSeq (sSet 3 (wCallP 0 (ps1 f__law_pick) (aC (wLst (aC (wLst (aC (wC (.str [97])) (aC (wC (.str [98])) aN))) (aC (wLst (aC (wC (.str [97])) (aC (wC (.str [98])) aN))) (aC (wLst (aC (wC (.str [97])) (aC (wC (.str [98])) (aC (wC (.str [99])) aN)))) (aC (wLst (aC (wC (.str [97])) aN)) aN))))) aN)))
  (sSeq (sSet 4 (wLst aN))
  (sSeq (sFor (iR1 (wV 1)) (gN 5) (sSeq (sExpr (wCallP 0 (ps0 f__law_next) aN))
  (sSeq (sSet 6 (wOp wAdd (oE (wCallP 0 (ps1 f__law_pick) (aC (wV 3) aN))) (oE (wCallP 0 (ps2 f__law_word) (aC (wOp wSub (oV 2) (oE (wC (.int 1)))) (aC (wV 3) aN))))))
  (sSeq (sSet 7 (wCallP 0 (ps2 f__law_word) (aC (wUn wLen (oV 6)) (aC (wV 3) aN))))
  (sJ (sIf (wTst (wOp wGt (oE (wTup (aC (wUn wLen (oV 7)) (aC (wV 7) aN)))) (oE (wTup (aC (wUn wLen (oV 6)) (aC (wV 6) aN)))))) (sPar 6 7 (aC (wV 7) (aC (wV 6) aN))) sNext)
  (sIf (wAnd (wTst (wOp wNe (oV 6) (oV 7))) (wTst (wOp wNin (oE (wTup (aC (wV 6) (aC (wV 7) aN)))) (oV 4)))) (sExpr (wMut1 "list" 4 mAppend (wTup (aC (wV 6) (aC (wV 7) aN))))) sNext))))))
  (sRet (wUn wSorted (oV 4))))))
def N__law_steps : Nat := 7
-- 0:system 1:word 2:found 3:left 4:right 5:at 6:there
def w__law_steps : WS :=
  (sSeq (sSet 2 (wLst aN))
  (sSeq (sFor (iS (wV 0)) (gT 2 (gsC (gN 3) (gsC (gN 4) gsN))) (sFor (iR1 (wOp wAdd (oE (wOp wSub (oE (wUn wLen (oV 1))) (oE (wUn wLen (oV 3))))) (oE (wC (.int 1))))) (gN 5) (sIf (wTst (wOp wEq (oE (wSlice (oV 1) (pS (wV 5)) (pS (wOp wAdd (oV 5) (oE (wUn wLen (oV 3))))))) (oV 3))) (sSeq (sSet 6 (wOp wAdd (oE (wOp wAdd (oE (wSlice (oV 1) pN (pS (wV 5)))) (oV 4))) (oE (wSlice (oV 1) (pS (wOp wAdd (oV 5) (oE (wUn wLen (oV 3))))) pN))))
  (sIf (wTst (wOp wNin (oV 6) (oV 2))) (sExpr (wMut1 "list" 2 mAppend (wV 6))) sNext)) sNext)))
  (sRet (wM 2))))
theorem mem_cand_take {S : Sy} {w x : Wo} {i : Nat} {q : Wo × Wo} (h : S[i]? = some q) : x ∈ cand (S.take (i + 1)) w ↔ x ∈ cand (S.take i) w ∨ x ∈ cand1 w q := by
  unfold cand
  rw [take_snoc h, List.flatMap_append, List.mem_append]
  simp
theorem range_snoc (n : Nat) : List.range (n + 1) = List.range n ++ [n] := List.range_succ
def candN (w : Wo) (q : Wo × Wo) (n : Nat) : List Wo := (List.range n).filterMap (one1 w q)
theorem mem_candN {w x : Wo} {q : Wo × Wo} {n : Nat} : x ∈ candN w q (n + 1) ↔ x ∈ candN w q n ∨ one1 w q n = some x := by
  unfold candN
  rw [List.range_succ, List.filterMap_append, List.mem_append]
  simp [List.filterMap_cons]
  constructor
  · rintro (h | h)
    · exact .inl h
    · right
      cases e : one1 w q n with
      | none => rw [e] at h; simp at h
      | some y => rw [e] at h; simp at h; rw [h]
  · rintro (h | h)
    · exact .inl h
    · right; rw [h]; simp
theorem cut_piece (w : Wo) {a b : Int} (ha : 0 ≤ a) (hb : 0 ≤ b) : cut w (some a) (some (a + b)) = (w.drop a.toNat).take b.toNat := by
  rw [cut_mid w ha (by omega)]
  congr 1
  omega
theorem map_get {α : Type} {l : List α} {f : α → D} {i : Nat} {d : D} (h : (l.map f)[i]? = some d) : ∃ x, l[i]? = some x ∧ d = f x := by
  rw [List.getElem?_map] at h
  cases e : l[i]? with
  | none => rw [e] at h; cases h
  | some x => rw [e] at h; exact ⟨x, rfl, (Option.some.inj h).symm⟩
theorem piece_eq (o l : Wo) (j : Nat) : cut o (some (0 + (j : Int))) (some (0 + (j : Int) + ((List.length l : Nat) : Int))) = (o.drop j).take l.length := by
  rw [cut_piece o (by omega) (by omega)]
  congr 1 <;> simp
theorem front_eq (o : Wo) (j : Nat) : cut o none (some (0 + (j : Int))) = o.take j := by
  rw [cut_to o (by omega)]; congr 1; simp
theorem back_eq (o l : Wo) (j : Nat) : cut o (some (0 + (j : Int) + ((List.length l : Nat) : Int))) none = o.drop (j + l.length) := by
  rw [cut_from o (by omega)]; congr 1; omega
theorem cand_bound {w : Wo} {q : Wo × Wo} : ((w.length : Int) - ((List.length q.1 : Nat) : Int) + 1).toNat = w.length + 1 - q.1.length := by omega
theorem law__law_steps : ∀ a0 a1 Pp, f__law_steps a0 a1 Pp → LF N__law_steps w__law_steps [a0, a1] Pp := by
  rintro a0 a1 Pp ⟨S, o, rfl, rfl, hS, h10, ho, k⟩
  unfold N__law_steps w__law_steps sysD
  walk_at "start"
  refine ev_ ?_
  refine x_forK (fun i E => ∃ z3 z4 z5 z6, ∃ L : List Wo, E = [some (.dat (.lst (S.map enc))), some (.dat (.str o)), some (.own (.lst (L.map D.str))), z3, z4, z5, z6] ∧ (∀ x, x ∈ L ↔ x ∈ cand (S.take i) o) ∧ L.Nodup ∧ L.length ≤ 45 * i) ⟨_, _, _, _, [], rfl, by simp [cand], .nil, by simp⟩ ?_ ?_
  · rintro i d E hi ⟨z3, z4, z5, z6, L, rfl, hL, nd, hl⟩
    obtain ⟨q, hq, rfl⟩ := map_get hi
    have hq2 := hS q (List.mem_of_getElem? hq)
    have h1 := ho
    have h2 := hq2.2.1
    have h3 := hq2.2.2.1
    have hi10 := (List.getElem?_eq_some_iff.mp hq).1
    rw [show enc q = .tup [.str q.1, .str q.2] from rfl]
    refine ev_ ⟨by omega, by omega, by omega, ?_⟩
    refine x_forK (fun j E => ∃ z5 z6, ∃ L : List Wo, E = [some (.dat (.lst (S.map enc))), some (.dat (.str o)), some (.own (.lst (L.map D.str))), some (.dat (.str q.1)), some (.dat (.str q.2)), z5, z6] ∧ (∀ x, x ∈ L ↔ x ∈ cand (S.take i) o ∨ x ∈ candN o q j) ∧ L.Nodup ∧ L.length ≤ 45 * i + j) ⟨_, _, L, rfl, by simp [candN, hL], nd, by omega⟩ ?_ ?_
    · rintro j d E hj ⟨z5, z6, L, rfl, hL, nd, hl⟩
      obtain ⟨hlt, rfl⟩ := rng_get hj
      refine ev_ ⟨by omega, by omega, ?_⟩
      rw [piece_eq]
      refine x_iteD (fun e1 => ?_) (fun e1 => ?_)
      · refine ev_ ⟨by omega, ?_⟩
        rw [front_eq, back_eq]
        have hl2 : (o.take j).length + q.2.length ≤ 50 := by rw [List.length_take]; omega
        refine ⟨by omega, by omega, by omega, by rw [List.length_append, List.length_drop]; omega, ?_⟩
        refine ⟨.inl ⟨rfl, by simp [List.all_eq_true, flatD]⟩, ?_⟩
        have ee : ∀ x, one1 o q j = some x ↔ o.take j ++ q.2 ++ o.drop (j + q.1.length) = x := fun x => by
          unfold one1
          rw [if_pos e1]; simp
        rw [anyD_map eqS]
        refine ev_iteN (fun e2 => ?_) (fun e2 => ?_)
        · refine ⟨by rw [List.length_map]; omega, _, _, L ++ [o.take j ++ q.2 ++ o.drop (j + q.1.length)], by rw [List.map_append]; rfl, fun x => ?_, List.nodup_append.mpr ⟨nd, by simp, fun x hx y hy e => e2 (by rw [List.mem_singleton.mp hy] at e; rw [← e]; exact hx)⟩, by rw [List.length_append]; simp; omega⟩
          rw [List.mem_append, hL, mem_candN, ee, List.mem_singleton, or_assoc, eq_comm (a := x)]
        · refine ⟨_, _, L, rfl, fun x => ?_, nd, by omega⟩
          rw [hL, mem_candN, ee]
          constructor
          · rintro (h | h)
            · exact .inl h
            · exact .inr (.inl h)
          · rintro (h | h | h)
            · exact .inl h
            · exact .inr h
            · subst h; exact (hL _).mp e2
      · refine ev_ ⟨_, _, L, rfl, fun x => ?_, nd, by omega⟩
        rw [hL, mem_candN]
        have : ¬ one1 o q j = some x := fun h => by
          unfold one1 at h
          rw [if_neg e1] at h
          cases h
        simp [this]
    · rintro E ⟨z5, z6, L, rfl, hL, nd, hl⟩
      rw [rng_len, cand_bound] at hL hl
      refine ⟨_, _, _, _, L, rfl, fun x => ?_, nd, by omega⟩
      rw [mem_cand_take hq, hL]; rfl
  · rintro E ⟨z3, z4, z5, z6, L, rfl, hL, nd, hl⟩
    rw [List.length_map] at hL hl
    rw [List.take_length] at hL
    exact ev_ (k L hL nd (by omega))
theorem law__law_word : ∀ p a0 a1 a2 Pp, f__law_word a0 a1 a2 Pp → LP N__law_word w__law_word p a0 [a1, a2] Pp := by
  rintro p a0 a1 a2 Pp ⟨hp, n, ss, rfl, hn, rfl, ⟨s1, s2, s3⟩, k⟩
  unfold N__law_word w__law_word
  walk_at "start"
  refine ev_ ⟨hp, ⟨by omega, by omega⟩, fun v d' v0 v1 hd => ⟨by omega, ?_⟩⟩
  refine x_forK (fun i E => ∃ z4 t d', E = [some (.par p d'), some (.dat (.int n)), some (.dat (.lst (ss.map D.str))), some (.dat (.str t)), z4] ∧ isPool d' ∧ t.length ≤ i ∧ abc t ∧ ∀ c ∈ t, [c] ∈ ss) ⟨_, [], _, rfl, hd, by simp, (fun c h => by cases h), (fun c h => by cases h)⟩ ?_ ?_
  · rintro i d E hi ⟨z4, t, d', rfl, hd, ht, ha, hc⟩
    obtain ⟨hlt, rfl⟩ := rng_get hi
    refine ev_ ⟨hd, ⟨s1, by omega⟩, fun s d2 hs hd2 => ⟨by rw [(s3 s hs).1]; omega, _, t ++ s, _, rfl, hd2, by rw [List.length_append, (s3 s hs).1]; omega, abc_app ha (s3 s hs).2, fun c hm => ?_⟩⟩
    rcases List.mem_append.mp hm with z | z
    · exact hc c z
    · have h1 := (s3 s hs).1
      match s, h1, z with
      | [d], _, z => rw [List.mem_singleton.mp z]; exact hs
  · rintro E ⟨z4, t, d', rfl, hd, ht, ha, hc⟩
    rw [rng_len] at ht
    exact ev_ (k _ _ (by omega) ha hc hd)
theorem sys_sort (S : Sy) : (S.map enc).mergeSort leD = (S.mergeSort fun a b => leD (enc a) (enc b)).map enc := (List.map_mergeSort (f := enc) (r := fun a b => leD (enc a) (enc b)) (s := leD) (fun a _ b _ => rfl)).symm
theorem enc_ok {q : Wo × Wo} (h : okS q.1 ∧ okS q.2) : okN 1 (enc q) := okN_tup (all_cons (okN_str h.1) (all_cons (okN_str h.2) all_nil))
theorem sys_sortOk {S : Sy} (h : ∀ q ∈ S, okS q.1 ∧ okS q.2) : sortOk (S.map enc) := by
  refine ⟨fun d hd => ?_, ?_, ?_⟩
  · obtain ⟨q, hq, rfl⟩ := List.mem_map.mp hd
    exact (enc_ok (h q hq)).ok
  · rw [List.map_map]
    exact PySem.W.AllAlike.of fun _ _ => by simp [enc, D.py, D.pys, PySem.W.alike, PySem.W.alikeAll]
  · rw [List.map_map]
    exact PySem.W.Sortable.tuples fun b => ⟨_, _, by simp [enc, D.py, D.pys]; exact ⟨rfl, rfl⟩⟩
theorem lt_pair {a b : Int} {s t : Wo} (h : ltD (.tup [.int a, .str s]) (.tup [.int b, .str t]) = true) : a ≤ b := by
  have h' : PySem.W.dataLt (.tuple [.int a, .str (mkS s)]) (.tuple [.int b, .str (mkS t)]) = true := by
    have := h; simpa [ltD, D.py, D.pys] using this
  rw [PySem.W.dataLt_pair rfl rfl] at h'
  have e1 : PyData.eqv (.int a) (.int b) = decide (a = b) := by have := eqD_int a b; simpa [eqD, D.py] using this
  rw [e1] at h'
  by_cases hab : a = b
  · omega
  · rw [decide_eq_false hab] at h'
    have h2 : PySem.W.dataLt (.int a) (.int b) = true := by simpa using h'
    have e2 : PySem.W.dataLt (.int a) (.int b) = decide (a < b) := by
      have := congrFun (congrFun (PySem.W.dataLe_int (fun x : Int => x)) b) a
      rw [PySem.W.dataLe_eq] at this
      have h3 : (!PySem.W.dataLt (.int a) (.int b)) = decide (b ≤ a) := this
      cases hh : PySem.W.dataLt (.int a) (.int b) <;> rw [hh] at h3
      · symm; rw [decide_eq_false_iff_not]; have := of_decide_eq_true h3.symm; omega
      · symm; rw [decide_eq_true_iff]; have := of_decide_eq_false h3.symm; omega
    rw [e2] at h2
    have := of_decide_eq_true h2
    omega
theorem law__law_system : ∀ p a0 a1 a2 Pp, f__law_system a0 a1 a2 Pp → LP N__law_system w__law_system p a0 [a1, a2] Pp := by
  rintro p a0 a1 a2 Pp ⟨hp, n, mx, rfl, hn, rfl, hm1, hm4, k⟩
  unfold N__law_system w__law_system
  walk_at "start"
  refine ev_ ⟨hp, ⟨by simp, by decide⟩, fun s d' hs hd => ?_⟩
  have hs : ∃ ss : List Wo, s = .lst (ss.map D.str) ∧ LtOk ss := by
    have ab : LtOk [[97], [98]] := ⟨by simp, by decide, by simp [abc]⟩
    simp only [List.mem_cons, List.not_mem_nil, or_false] at hs
    rcases hs with e | e | e | e
    · exact ⟨[[97], [98]], e, ab⟩
    · exact ⟨[[97], [98]], e, ab⟩
    · exact ⟨[[97], [98], [99]], e, by simp, by decide, by simp [abc]⟩
    · exact ⟨[[97]], e, by simp, by decide, by simp [abc]⟩
  obtain ⟨ss, rfl, hss⟩ := hs
  refine ⟨by omega, ?_⟩
  refine x_forK (fun i E => ∃ z5 z6 z7 d' S, E = [some (.par p d'), some (.dat (.int n)), some (.dat (.int mx)), some (.dat (.lst (ss.map D.str))), some (.own (.lst (S.map enc))), z5, z6, z7] ∧ isPool d' ∧ S.length ≤ i ∧ SyF mx S) ⟨_, _, _, _, [], rfl, hd, Nat.le_refl _, fun q h => by cases h⟩ ?_ ?_
  · rintro i d E hi ⟨z5, z6, z7, d', S, rfl, hd, hl, hS⟩
    obtain ⟨hlt, rfl⟩ := rng_get hi
    have l1 := hss.2.1
    refine ev_ ⟨hd, fun d1 hd1 => ⟨hd1, ⟨hss.1, by omega⟩, fun s1 d2 hs1 hd2 => ?_⟩⟩
    have w1 := hss.2.2 s1 hs1
    rw [show ((mx : Int) - 1) = ((mx - 1 : Nat) : Int) by omega]
    refine ⟨hd2, mx - 1, ss, rfl, by omega, rfl, hss, fun s2 d3 l2 a2 _ hd3 => ?_⟩
    have w11 := w1.1
    refine ev_ ⟨by omega, by rw [List.length_append]; omega, ?_⟩
    have w3 : 1 ≤ (s1 ++ s2).length ∧ (s1 ++ s2).length ≤ mx ∧ abc (s1 ++ s2) := ⟨by rw [List.length_append]; omega, by rw [List.length_append]; omega, abc_app w1.2 a2⟩
    refine ⟨hd3, (s1 ++ s2).length, ss, rfl, by have := w3.2.1; omega, rfl, hss, fun s4 d4 l4 a4 _ hd4 => ?_⟩
    generalize s1 ++ s2 = l at *
    obtain ⟨w31, w32, w33⟩ := w3
    refine ev_ ?_
    refine x_join (fun E => ∃ l r z, E = [some (.par p d4), some (.dat (.int n)), some (.dat (.int mx)), some (.dat (.lst (ss.map D.str))), some (.own (.lst (S.map enc))), z, some (.dat (.str l)), some (.dat (.str r))] ∧ 1 ≤ l.length ∧ l.length ≤ mx ∧ r.length ≤ l.length ∧ abc l ∧ abc r) (fun nx' hn => ?_) ?_
    · refine ev_ ⟨by omega, by omega, ⟨?_, ?_, ?_, rfl⟩, ?_⟩
      · exact (okN_tup (n := 0) (all_cons (okN_int _) (all_cons (okN_str a4.ok) all_nil))).ok
      · exact (okN_tup (n := 0) (all_cons (okN_int _) (all_cons (okN_str w33.ok) all_nil))).ok
      · simp [D.py, D.pys, PySem.W.alike, PySem.W.alikeAll]
      · refine ev_iteB (fun hlt => ?_) (fun _ => hn _ ⟨_, _, _, rfl, w31, w32, l4, w33, a4⟩)
        have hle := lt_pair hlt
        exact hn _ ⟨_, _, _, rfl, by omega, by omega, by omega, a4, w33⟩
    · rintro E ⟨l, r, z, rfl, b1, b2, b3, b4, b5⟩
      refine ev_ ?_
      refine ev_iteN (fun _ => ?_) (fun _ => ⟨_, _, _, _, _, rfl, hd4, by omega, hS⟩)
      refine ⟨.inr ⟨(okN_tup (n := 0) (all_cons (okN_str b4.ok) (all_cons (okN_str b5.ok) all_nil))).ok, (okN_lst (n := 1) fun d hd => ?_).ok⟩, ?_⟩
      · obtain ⟨q, hq, rfl⟩ := List.mem_map.mp hd
        exact enc_ok ⟨(hS q hq).2.2.2.1.ok, (hS q hq).2.2.2.2.ok⟩
      · refine ev_iteM (fun _ => ?_) (fun _ => ⟨_, _, _, _, _, rfl, hd4, by omega, hS⟩)
        refine ⟨by rw [List.length_map]; omega, _, _, _, _, S ++ [(l, r)], by rw [List.map_append]; rfl, hd4, by rw [List.length_append]; simp; omega, fun q hq => ?_⟩
        rcases List.mem_append.mp hq with h | h
        · exact hS q h
        · rw [List.mem_singleton] at h
          subst h; exact ⟨b1, b2, b3, b4, b5⟩
  · rintro E ⟨z5, z6, z7, d', S, rfl, hd, hl, hS⟩
    rw [rng_len] at hl
    refine ev_ ⟨sys_sortOk fun q hq => ⟨(hS q hq).2.2.2.1.ok, (hS q hq).2.2.2.2.ok⟩, ?_⟩
    rw [sys_sort]
    exact k _ _ (fun q hq => hS q (List.mem_mergeSort.mp hq)) (by rw [List.length_mergeSort]; omega) hd
end PW

set_option Elab.async false
set_option linter.all false
set_option autoImplicit false
set_option maxRecDepth 100000
set_option maxHeartbeats 4000000
namespace PW
open PySem PySem.Spec PyProof.Rows L2
/-! ### the order of texts, sorted lists of texts -/
theorem leD_tot : PySem.W.TotalLe leD := by
  have := PySem.W.sortLe_total (PyProof.Rows.listOrd PyProof.Rows.itemOrd) false (fun d : D => PySem.W.keyToks d.py)
  exact this
abbrev leW (a b : Wo) : Bool := leD (.str a) (.str b)
theorem leW_dec (a b : Wo) : leW a b = decide (a ≤ b) := by
  have h := congrFun (congrFun (PySem.W.dataLe_str (fun w : Wo => mkS w)) a) b
  have e : leW a b = PySem.W.dataLe false (fun w : Wo => PyData.str (mkS w)) a b := by
    show PySem.W.dataLe false D.py (.str a) (.str b) = _
    rw [PySem.W.dataLe_eq, PySem.W.dataLe_eq]; simp only [D.py]
  rw [e, h]
theorem leW_anti {a b : Wo} (h : leW a b = true) (h' : leW b a = true) : a = b := by
  rw [leW_dec, decide_eq_true_iff] at h h'
  exact List.le_antisymm h h'
theorem leW_tot (a b : Wo) : (leW a b || leW b a) = true := by
  rcases leD_tot.total (.str a) (.str b) with h | h <;> simp [leW, h]
theorem leW_trans (a b c : Wo) (h : leW a b = true) (h' : leW b c = true) : leW a c = true := leD_tot.trans _ _ _ h h'
def srtW (l : List Wo) : List Wo := l.mergeSort leW
theorem srtW_pw (l : List Wo) : (srtW l).Pairwise fun a b => leW a b = true := List.pairwise_mergeSort leW_trans leW_tot l
theorem srtW_mem {l : List Wo} {x : Wo} : x ∈ srtW l ↔ x ∈ l := List.mem_mergeSort
theorem srtW_nodup {l : List Wo} (h : l.Nodup) : (srtW l).Nodup := (List.mergeSort_perm l leW).nodup_iff.mpr h
theorem srt_eq {l m : List Wo} (hl : l.Nodup) (hm : m.Nodup) (h : ∀ x, x ∈ l ↔ x ∈ m) (pl : l.Pairwise fun a b => leW a b = true) (pm : m.Pairwise fun a b => leW a b = true) : l = m :=
  List.Perm.eq_of_pairwise (fun a b _ _ h1 h2 => leW_anti h1 h2) pl pm ((List.perm_ext_iff_of_nodup hl hm).mpr h)
theorem srtW_eq {l m : List Wo} (hl : l.Nodup) (hm : m.Nodup) (h : ∀ x, x ∈ l ↔ x ∈ m) : srtW l = srtW m :=
  srt_eq (srtW_nodup hl) (srtW_nodup hm) (fun x => by rw [srtW_mem, srtW_mem]; exact h x) (srtW_pw l) (srtW_pw m)
theorem sort_strs (l : List Wo) : (l.map D.str).mergeSort leD = (srtW l).map D.str := (List.map_mergeSort (f := D.str) (r := leW) (s := leD) (fun _ _ _ _ => rfl)).symm
def dd : List Wo → List Wo
  | [] => []
  | x :: l => if x ∈ dd l then dd l else x :: dd l
theorem dd_mem {x : Wo} : ∀ {l : List Wo}, x ∈ dd l ↔ x ∈ l
  | [] => Iff.rfl
  | y :: l => by
    have ih := dd_mem (x := x) (l := l)
    unfold dd
    split
    · rename_i h
      rw [ih, List.mem_cons]
      exact ⟨.inr, fun z => z.elim (fun e => by rw [e]; exact dd_mem.mp h) id⟩
    · rw [List.mem_cons, List.mem_cons, ih]
theorem dd_nodup : ∀ l : List Wo, (dd l).Nodup
  | [] => .nil
  | y :: l => by
    unfold dd
    split
    · exact dd_nodup l
    · rename_i h
      exact List.nodup_cons.mpr ⟨h, dd_nodup l⟩
/-- sorted(set(l)) -/
def sset (l : List Wo) : List Wo := srtW (dd l)
theorem sset_mem {l : List Wo} {x : Wo} : x ∈ sset l ↔ x ∈ l := by rw [sset, srtW_mem, dd_mem]
theorem sset_nodup (l : List Wo) : (sset l).Nodup := srtW_nodup (dd_nodup l)
theorem sset_pw (l : List Wo) : (sset l).Pairwise fun a b => leW a b = true := srtW_pw _
theorem allTx_strs (l : List Wo) : allTx (l.map D.str) := fun d hd => by
  obtain ⟨s, _, rfl⟩ := List.mem_map.mp hd
  exact ⟨s, rfl⟩
theorem str_inj {a b : Wo} (h : D.str a = D.str b) : a = b := by injection h
theorem setSort_strs {l : List Wo} {m : List D} (h : SetSort (l.map D.str) m) : m = (sset l).map D.str := by
  obtain ⟨h1, h2, h3⟩ := h
  have hm : ∃ m' : List Wo, m = m'.map D.str := by
    have : ∀ d ∈ m, ∃ s, d = .str s := fun d hd => allTx_strs l d ((h2 d).mp hd)
    clear h1 h2 h3
    induction m with
    | nil => exact ⟨[], rfl⟩
    | cons d m ih =>
      obtain ⟨s, e⟩ := this d List.mem_cons_self
      obtain ⟨m', e'⟩ := ih fun d hd => this d (List.mem_cons_of_mem _ hd)
      exact ⟨s :: m', by rw [e, e']; rfl⟩
  obtain ⟨m', rfl⟩ := hm
  congr 1
  have nd : m'.Nodup := by
    have := List.pairwise_map.mp h1
    exact this.imp fun hne e => hne (by rw [e])
  refine srt_eq nd (sset_nodup l) (fun x => ?_) (List.pairwise_map.mp h3) (sset_pw l)
  rw [sset_mem]
  have := h2 (.str x)
  rw [List.mem_map, List.mem_map] at this
  exact ⟨fun hx => by
    obtain ⟨y, hy, e⟩ := this.mp ⟨x, hx, rfl⟩
    rw [← str_inj e]; exact hy, fun hx => by
    obtain ⟨y, hy, e⟩ := this.mpr ⟨x, hx, rfl⟩
    rw [← str_inj e]; exact hy⟩
theorem sortOk_strs {l : List Wo} (h : ∀ s ∈ l, okS s) : sortOk (l.map D.str) := by
  refine ⟨fun d hd => ?_, ?_, ?_⟩
  · obtain ⟨s, hs, rfl⟩ := List.mem_map.mp hd
    exact okD_str (h s hs)
  · rw [List.map_map]
    exact PySem.W.AllAlike.of fun _ _ => by simp [D.py, PySem.W.alike]
  · rw [List.map_map]
    exact PySem.W.Sortable.others fun _ => ⟨by simp [D.py], by simp [D.py]⟩
/-! ### lists of texts, and their order -/
abbrev rowD (r : List Wo) : D := .lst (r.map D.str)
theorem alike_strs : ∀ xs ys : List Wo, PySem.W.alikeAll (D.pys (xs.map D.str)) (D.pys (ys.map D.str)) = true
  | [], _ => by simp [PySem.W.alikeAll, D.pys]
  | _ :: _, [] => by simp [PySem.W.alikeAll, D.pys]
  | x :: xs, y :: ys => by
    have := alike_strs xs ys
    simp only [List.map_cons, D.pys, PySem.W.alikeAll, this, D.py, PySem.W.alike, Bool.and_self]
theorem sortOk_rows {l : List (List Wo)} (h : ∀ r ∈ l, ∀ s ∈ r, okS s) : sortOk (l.map rowD) := by
  refine ⟨fun d hd => ?_, ?_, ?_⟩
  · obtain ⟨r, hr, rfl⟩ := List.mem_map.mp hd
    exact (okN_strs (h r hr)).ok
  · rw [List.map_map]
    refine PySem.W.AllAlike.of fun a b => ?_
    show PySem.W.alike (rowD a).py (rowD b).py = true
    simp only [D.py, PySem.W.alike]
    exact alike_strs a b
  · rw [List.map_map]
    exact PySem.W.Sortable.others fun b => ⟨by simp [D.py], by simp [D.py]⟩
theorem le_cons (x y : Wo) (A C : List Wo) : leD (rowD (x :: A)) (rowD (y :: C)) = if x = y then leD (rowD A) (rowD C) else leW x y := by
  show (!PySem.W.dataLt (rowD (y :: C)).py (rowD (x :: A)).py) = if x = y then (!PySem.W.dataLt (rowD C).py (rowD A).py) else (!PySem.W.dataLt (D.str y).py (D.str x).py)
  have e : ∀ l : List Wo, (rowD l).py = .list (D.pys (l.map D.str)) := fun l => by simp only [D.py]
  rw [e, e, e, e, PySem.W.dataLt_list, PySem.W.dataLt_list]
  simp only [List.map_cons, D.pys]
  rw [PySem.W.dataLt_cons (by simp [D.py, PySem.W.alike])]
  have e2 : PyData.eqv (D.str y).py (D.str x).py = decide (y = x) := eqD_str y x
  rw [e2]
  by_cases h : x = y
  · subst h; simp
  · rw [if_neg h, decide_eq_false (fun e => h e.symm)]; simp
theorem le_self (d : D) : leD d d = true := by rcases leD_tot.total d d with h | h <;> exact h
theorem le_snoc (x y : Wo) : ∀ A C : List Wo, A.length = C.length → leD (rowD (A ++ [x])) (rowD (C ++ [y])) = if A = C then leW x y else leD (rowD A) (rowD C)
  | [], [], _ => by
    rw [if_pos rfl, List.nil_append, List.nil_append, le_cons]
    by_cases h : x = y
    · subst h; rw [if_pos rfl, le_self, leW, le_self]
    · rw [if_neg h]
  | a :: A, c :: C, h => by
    have ih := le_snoc x y A C (by simpa using h)
    rw [List.cons_append, List.cons_append, le_cons, le_cons, ih]
    by_cases e : a = c
    · subst e
      simp only [if_true, List.cons.injEq, true_and]
    · simp [e]
  | [], _ :: _, h => by simp at h
  | _ :: _, [], h => by simp at h
/-! ### words over a, b, c -/
def wk : Nat → List Wo
  | 0 => [[]]
  | n + 1 => (wk n).flatMap fun w => [97 :: w, 98 :: w, 99 :: w]
theorem wk_len : ∀ n, (wk n).length = 3 ^ n
  | 0 => rfl
  | n + 1 => by
    rw [wk, List.length_flatMap]
    simp only [List.length_cons, List.length_nil]
    rw [List.map_const', List.sum_replicate_nat, wk_len n, Nat.pow_succ]
theorem wk_mem : ∀ (w : Wo), abc w → w ∈ wk w.length
  | [], _ => by simp [wk]
  | c :: w, h => by
    have ih := wk_mem w fun d hd => h d (List.mem_cons_of_mem _ hd)
    rw [List.length_cons, wk, List.mem_flatMap]
    refine ⟨w, ih, ?_⟩
    rcases h c List.mem_cons_self with e | e | e <;> subst e <;> simp
def InW (n : Nat) (w : Wo) : Prop := w.length ≤ n ∧ abc w
theorem InW_few {n : Nat} {l : List Wo} (hn : l.Nodup) (h : ∀ w ∈ l, InW n w) : l.length ≤ ((List.range (n + 1)).map fun k => 3 ^ k).sum := by
  have := nodup_len (m := (List.range (n + 1)).flatMap wk) hn fun w hw => List.mem_flatMap.mpr ⟨w.length, List.mem_range.mpr (by have := (h w hw).1; omega), wk_mem w (h w hw).2⟩
  rw [List.length_flatMap] at this
  rwa [show (fun k => (wk k).length) = fun k => 3 ^ k from funext wk_len] at this
theorem cand_InW {S : Sy} {n : Nat} {w : Wo} (hS : SyF 4 S) (h : InW n w) : ∀ x ∈ cand S w, InW n x := by
  intro x hx
  obtain ⟨q, hq, hx⟩ := List.mem_flatMap.mp hx
  obtain ⟨at_, hat, he⟩ := List.mem_filterMap.mp hx
  obtain ⟨h1, h2, h3, h4, h5⟩ := hS q hq
  unfold one1 at he
  split at he
  · rename_i hl
    cases he
    have hlen := congrArg List.length hl
    rw [List.length_take, List.length_drop] at hlen
    have := h.1
    refine ⟨?_, abc_app (abc_app (fun c hc => h.2 c (List.mem_of_mem_take hc)) h5) fun c hc => h.2 c (List.mem_of_mem_drop hc)⟩
    simp only [List.length_append, List.length_take, List.length_drop]
    omega
  · cases he
theorem cand_len {S : Sy} {w : Wo} (hS : SyF 4 S) : (cand S w).length ≤ S.length * (w.length + 1) := by
  unfold cand
  induction S with
  | nil => simp
  | cons q S ih =>
    rw [List.flatMap_cons, List.length_append, List.length_cons, Nat.succ_mul]
    have h1 := ih fun p hp => hS p (List.mem_cons_of_mem _ hp)
    have h2 : (cand1 w q).length ≤ w.length + 1 := by
      unfold cand1
      refine Nat.le_trans (List.length_filterMap_le _ _) ?_
      rw [List.length_range]; omega
    omega
def stp (S : Sy) (w : Wo) : List Wo := sset (cand S w)
theorem stp_mem {S : Sy} {w x : Wo} : x ∈ stp S w ↔ x ∈ cand S w := sset_mem
/-- steps lead from a to x -/
inductive Lead (S : Sy) (a : Wo) : Wo → Prop
  | refl : Lead S a a
  | step {x y : Wo} : Lead S a x → y ∈ cand S x → Lead S a y
theorem Lead.InW {S : Sy} {n : Nat} {a x : Wo} (hS : SyF 4 S) (ha : InW n a) (h : Lead S a x) : InW n x := by
  induction h with
  | refl => exact ha
  | step _ hy ih => exact cand_InW hS ih _ hy
/-- what holds a and, with a word, all that steps lead to, holds all -/
theorem Lead.closed {S : Sy} {a x : Wo} {L : List Wo} (h : Lead S a x) (h0 : a ∈ L) (hc : ∀ x ∈ L, ∀ y ∈ cand S x, y ∈ L) : x ∈ L := by
  induction h with
  | refl => exact h0
  | step _ hy ih => exact hc _ ih _ hy
end PW

set_option Elab.async false
set_option linter.all false
set_option autoImplicit false
set_option maxRecDepth 100000
set_option maxHeartbeats 4000000
set_option synthInstance.maxHeartbeats 2000000
set_option synthInstance.maxSize 1000000
namespace PW
open PySem PySem.Spec PyProof.Rows L2

/-! ### d.get(k), d.get(k, x) -/
def isDctO : Option D → Prop
  | some (.dct _ _) => True
  | _ => False
def wGet1 (wo wk : WO) : WE := fun E Q => wo E fun o E1 => isDctO (o.get E1) ∧ wk E1 fun k E2 => match o.get E2, k.get E2 with
  | some (.dct t kd), some y => keyOk t y = true ∧ Q (.dat ((lookD kd y).getD .non)) E2
  | _, _ => False
def wGet2 (wo wk wx : WO) : WE := fun E Q => wo E fun o E1 => isDctO (o.get E1) ∧ wk E1 fun k E2 => wx E2 fun x E3 => match o.get E3, k.get E3, x.get E3 with
  | some (.dct t kd), some y, some z => flatD z = true ∧ keyOk t y = true ∧ Q (.dat ((lookD kd y).getD z)) E3
  | _, _, _ => False
section
variable {K : PySem.W.Frag} {F H : Hp} {v : V}
theorem Rdb.isD' {t : Bool} {kd : List (D × D)} (hx : Rdb K F H v (.dct t kd)) (s : Sub F H) : ∃ a, v = .ref a ∧ IsD H a := by
  cases t with
  | false => obtain ⟨a, kv, ea, h, r⟩ := hx.dK s; exact ⟨a, ea, .inl ⟨kv, h⟩⟩
  | true => obtain ⟨a, kv, ea, h, r⟩ := hx.dT s; exact ⟨a, ea, .inr ⟨kv, h⟩⟩
theorem isDctO_some {o : Option D} (h : isDctO o) : ∃ t kd, o = some (.dct t kd) := by
  cases o with
  | none => exact h.elim
  | some d => cases d <;> first | exact ⟨_, _, rfl⟩ | exact h.elim
theorem ok_get1 {wo wk : WO} : EOk K (tDGet1 (tO K wo) (tO K wk)) (wGet1 wo wk) := fun O G F σ H E Q r0 q => by
  refine tO_bind r0 q fun x H1 F1 E1 o s1 r1 p1 ⟨hd, q1⟩ => ?_
  obtain ⟨t, kd, eo⟩ := isDctO_some hd
  obtain ⟨a, ea, id⟩ := (r1.rdb p1 eo).isD' r1.f
  refine ⟨a, ea, id, ?_⟩
  refine tO_bind r1 q1 fun y H2 F2 E2 k s2 r2 p2 q2 => ?_
  split at q2
  · rename_i t kd dy eo2 ek
    obtain ⟨ok, q2⟩ := q2
    obtain ⟨b, eb, ov, g, hv⟩ := (r2.rdb (p1.mono s2) eo2).dget (r2.rdb p2 ek) r2.f ok
    have hab : a = b := by rw [ea] at eb; injection eb
    subst hab
    refine ⟨ov, g, ?_⟩
    rcases hv with ⟨h1, h2⟩ | ⟨w, e, h1, h2, h3⟩
    · subst h1
      rw [h2] at q2
      exact ⟨F2, E2, .dat .non, s1.trans s2, r2, datRR .non, q2⟩
    · subst h1
      rw [h2] at q2
      exact ⟨F2, E2, .dat e, s1.trans s2, r2, datRR h3, q2⟩
  · exact q2.elim
theorem ok_get2 {wo wk wx : WO} : EOk K (tDGet2 (tO K wo) (tO K wk) (tO K wx)) (wGet2 wo wk wx) := fun O G F σ H E Q r0 q => by
  refine tO_bind r0 q fun x H1 F1 E1 o s1 r1 p1 ⟨hd, q1⟩ => ?_
  obtain ⟨t, kd, eo⟩ := isDctO_some hd
  obtain ⟨a, ea, id⟩ := (r1.rdb p1 eo).isD' r1.f
  refine ⟨a, ea, id, ?_⟩
  refine tO_bind r1 q1 fun y H2 F2 E2 k s2 r2 p2 q2 => ?_
  refine tO_bind r2 q2 fun z H3 F3 E3 l s3 r3 p3 q3 => ?_
  split at q3
  · rename_i t kd dy dz eo2 ek ez
    obtain ⟨fl, ok, q3⟩ := q3
    obtain ⟨b, eb, ov, g, hv⟩ := (r3.rdb ((p1.mono s2).mono s3) eo2).dget (r3.rdb (p2.mono s3) ek) r3.f ok
    have hab : a = b := by rw [ea] at eb; injection eb
    subst hab
    refine ⟨ov, g, ?_⟩
    rcases hv with ⟨h1, h2⟩ | ⟨w, e, h1, h2, h3⟩
    · subst h1
      rw [h2] at q3
      exact ⟨F3, E3, .dat dz, (s1.trans s2).trans s3, r3, datRR ((r3.rdb p3 ez).flat fl), q3⟩
    · subst h1
      rw [h2] at q3
      exact ⟨F3, E3, .dat e, (s1.trans s2).trans s3, r3, datRR h3, q3⟩
  · exact q3.elim
end
section
variable {X : Cx} {o e f : Expr} {apos cpos : Pos} {wo wk wx : WO}
theorem ed_get1 (hu : X.A.units + 1 < cLine) (ho : OD X o wo) (hk : OD X e wk) (hb : attributeBase o "get" X.env (eval o X.env) = eval o X.env := by rfl)
    (hf : ((backTo cpos (starEach [e] X.env)).all (fun x => !x.1) && (backToKw cpos (keywordEach [] X.env)).all (fun x => x.1.isSome) && decide (([e] : List Expr).length + ([] : List Keyword).length + (if ([] : List Keyword).isEmpty then 0 else 1) < 30)) = true := by rfl)
    (hl : (apos.endLine == cpos.line) = true := by rfl) (ht : backTo cpos (starEach [e] X.env) = [(false, eval e X.env)] := by rfl) : ED X (.Call (.Attribute o "get" apos) [e] [] cpos) (wGet1 wo wk) :=
  ed_of (pe_dget1 hu ho hk ⟨hb, hf, hl, ht⟩) ok_get1
theorem ed_get2 (hu : X.A.units + 1 < cLine) (ho : OD X o wo) (hk : OD X e wk) (hx : OD X f wx) (hb : attributeBase o "get" X.env (eval o X.env) = eval o X.env := by rfl)
    (hf : ((backTo cpos (starEach [e, f] X.env)).all (fun x => !x.1) && (backToKw cpos (keywordEach [] X.env)).all (fun x => x.1.isSome) && decide (([e, f] : List Expr).length + ([] : List Keyword).length + (if ([] : List Keyword).isEmpty then 0 else 1) < 30)) = true := by rfl)
    (hl : (apos.endLine == cpos.line) = true := by rfl) (ht : backTo cpos (starEach [e, f] X.env) = [(false, eval e X.env), (false, eval f X.env)] := by rfl) : ED X (.Call (.Attribute o "get" apos) [e, f] [] cpos) (wGet2 wo wk wx) :=
  ed_of (pe_dget2 hu ho hk hx ⟨hb, hf, hl, ht⟩) ok_get2
end
section
variable {E E' : En} {Q : B → En → Prop} {QO : Opn → En → Prop} {wo wk wx : WO} {o p l : Opn} {y z : D} {t : Bool} {kd : List (D × D)} {R : Prop}
def get1K (wk : WO) (o : Opn) (E1 : En) (Q : B → En → Prop) : Prop := isDctO (o.get E1) ∧ wk E1 fun k E2 => match o.get E2, k.get E2 with
  | some (.dct t kd), some y => keyOk t y = true ∧ Q (.dat ((lookD kd y).getD .non)) E2
  | _, _ => False
def get1L (o k : Opn) (E2 : En) (Q : B → En → Prop) : Prop := match o.get E2, k.get E2 with
  | some (.dct t kd), some y => keyOk t y = true ∧ Q (.dat ((lookD kd y).getD .non)) E2
  | _, _ => False
def get2K (wk wx : WO) (o : Opn) (E1 : En) (Q : B → En → Prop) : Prop := isDctO (o.get E1) ∧ wk E1 fun k E2 => wx E2 fun x E3 => match o.get E3, k.get E3, x.get E3 with
  | some (.dct t kd), some y, some z => flatD z = true ∧ keyOk t y = true ∧ Q (.dat ((lookD kd y).getD z)) E3
  | _, _, _ => False
def get2L (o k x : Opn) (E3 : En) (Q : B → En → Prop) : Prop := match o.get E3, k.get E3, x.get E3 with
  | some (.dct t kd), some y, some z => flatD z = true ∧ keyOk t y = true ∧ Q (.dat ((lookD kd y).getD z)) E3
  | _, _, _ => False
instance [e : Ev (wo E fun o E1 => get1K wk o E1 Q) R] : Ev (wGet1 wo wk E Q) R := ⟨fun h => e.h h⟩
instance [g : GetC E o (.dct t kd)] [e : Ev (wk E fun k E2 => get1L o k E2 Q) R] : Ev (get1K wk o E Q) R := ⟨fun h => ⟨by rw [g.h]; trivial, e.h h⟩⟩
instance [g : GetC E o (.dct t kd)] [g2 : GetC E p y] [e : Ev (Q (.dat ((lookD kd y).getD .non)) E) R] : Ev (get1L o p E Q) (keyOk t y = true ∧ R) := ⟨fun h => by unfold get1L; rw [g.h, g2.h]; exact ⟨h.1, e.h h.2⟩⟩
instance [e : Ev (wo E fun o E1 => get2K wk wx o E1 Q) R] : Ev (wGet2 wo wk wx E Q) R := ⟨fun h => e.h h⟩
instance [g : GetC E o (.dct t kd)] [e : Ev (wk E fun k E2 => wx E2 fun x E3 => get2L o k x E3 Q) R] : Ev (get2K wk wx o E Q) R := ⟨fun h => ⟨by rw [g.h]; trivial, e.h h⟩⟩
instance [g : GetC E o (.dct t kd)] [g2 : GetC E p y] [g3 : GetC E l z] [e : Ev (Q (.dat ((lookD kd y).getD z)) E) R] : Ev (get2L o p l E Q) (flatD z = true ∧ keyOk t y = true ∧ R) := ⟨fun h => by unfold get2L; rw [g.h, g2.h, g3.h]; exact ⟨h.1, h.2.1, e.h h.2.2⟩⟩
end
end PW

set_option Elab.async false
set_option linter.all false
set_option autoImplicit false
set_option maxRecDepth 100000
set_option maxHeartbeats 4000000
set_option synthInstance.maxHeartbeats 2000000
set_option synthInstance.maxSize 1000000
namespace PW
open PySem PySem.Spec PyProof.Rows L2
/-! ### for x in l, where l stays ours -/
theorem R.swap {K : PySem.W.Frag} {O G F : Hp} {σ : L2.St} {H : Hp} {E : En} {i : Nat} {b b' : B} (r : R K O G F σ H E) (h : E[i]? = some (some b)) (hb : ∀ v, σ[i]? = some (some v) → RB K O F H v b → RB K O F H v b' ∧ ownA v b' = ownA v b) : R K O G F σ H (E.set i (some b')) := by
  have back : ∀ (j : Nat) (c : B) (v : V) (a : Addr), (E.set i (some b'))[j]? = some (some c) → σ[j]? = some (some v) → ownA v c = some a → ∃ c', E[j]? = some (some c') ∧ ownA v c' = some a := fun j c v a e1 e2 e3 => by
    rcases getset e1 with ⟨rfl, e, _⟩ | ⟨_, e⟩
    · cases e
      obtain ⟨v', e4, q⟩ := r.at_ j _ h
      rw [e2] at e4; cases e4
      exact ⟨b, h, by rw [← (hb v e2 q).2]; exact e3⟩
    · exact ⟨c, e, e3⟩
  refine ⟨r.g, r.f, r.o, by rw [List.length_set]; exact r.len, fun j c e => ?_, fun j k a bj bk v w e1 e2 e3 e4 e5 e6 => ?_⟩
  · rcases getset e with ⟨rfl, e, _⟩ | ⟨_, e⟩
    · cases e
      obtain ⟨v, e4, q⟩ := r.at_ j _ h
      exact ⟨v, e4, (hb v e4 q).1⟩
    · exact r.at_ j c e
  · obtain ⟨c1, f1, f2⟩ := back j bj v a e1 e3 e5
    obtain ⟨c2, g1, g2⟩ := back k bk w a e2 e4 e6
    exact r.nd j k a c1 c2 v w f1 g1 e3 e4 f2 g2
theorem R.toPar {K : PySem.W.Frag} {O G F : Hp} {σ : L2.St} {H : Hp} {E : En} {i : Nat} {d : D} (r : R K O G F σ H E) (h : E[i]? = some (some (.own d))) : ∃ a, σ[i]? = some (some (.ref a)) ∧ Cell K F H a d ∧ R K O G F σ H (E.set i (some (.par a d))) := by
  obtain ⟨v, hs, a, rfl, h1, h2, h3⟩ := r.at_ i _ h
  refine ⟨a, hs, h3, r.swap h fun v e q => ?_⟩
  rw [hs] at e
  cases e
  exact ⟨⟨rfl, h1, h2, h3⟩, rfl⟩
theorem R.toOwn {K : PySem.W.Frag} {O G F : Hp} {σ : L2.St} {H : Hp} {E : En} {i : Nat} {d : D} {a : Addr} (r : R K O G F σ H E) (h : E[i]? = some (some (.par a d))) : R K O G F σ H (E.set i (some (.own d))) :=
  r.swap h fun v e q => by
    obtain ⟨rfl, h1, h2, h3⟩ := q
    exact ⟨⟨a, rfl, h1, h2, h3⟩, rfl⟩
def sForO (i : Nat) (wg : WG) (wb : WS) : WS := fun D E => ∃ l : List PW.D, E[i]? = some (some (.own (.lst l))) ∧ ∀ p : Addr, ∃ W : Nat → En → Prop, W 0 (E.set i (some (.par p (.lst l)))) ∧ (∀ k E', W k E' → E'[i]? = some (some (.par p (.lst l)))) ∧
  (∀ k d E', l[k]? = some d → W k E' → wg d E' fun E2 => wb { D with nx := W (k + 1), ct := W (k + 1), bk := fun E3 => E3[i]? = some (some (.par p (.lst l))) ∧ D.nx (E3.set i (some (.own (.lst l)))) } E2) ∧
  ∀ E', W l.length E' → D.nx (E'.set i (some (.own (.lst l))))
section
variable {X : Cx} {tg e : Expr} {i : Nat}
def tIv (K : PySem.W.Frag) (i : Nat) : TI := fun σ H Rr => ∃ a xs, σ[i]? = some (some (V.ref a)) ∧ SqL K H a xs ∧ Rr (Itl K a) H
theorem pi_v (hv : PE X e (tVar i)) : PI X tg e (tIv X.K i) := ⟨fun pins s σ H Rr I ⟨a, xs, hs, hq, q⟩ => thn (hv.run pins s σ H (fun v H1 => v = .ref a ∧ H1 = H) I ⟨_, hs, rfl, rfl⟩) fun u s1 ⟨v, H1, I1, rv, e1, e2⟩ => by
  subst e1 e2
  cases rv
  exact it_list I1 hq q⟩
theorem sd_forO {body : List Stmt} {wg : WG} {wb : WS} {pos : Pos} (hp : PassesOwn (model X.prog X.w) X.A X.env X.xe) (hc : X.calm = true) (hv : PE X e (tVar i)) (hg : GD X tg wg) (hb : BD X body wb)
    (hs : ∀ x, foldedSetIterable e X.env x = pure x := by intro _; rfl) : SD X (.For tg e body [] pos) (sForO i wg wb) := sd_of (ps_for hp hc (pi_v hv) hg hb hs) fun O G F σ H E D D' en r h => by
  obtain ⟨l, hE, hW⟩ := h
  obtain ⟨a, hσ, ⟨vs, hH, p⟩, r1⟩ := r.toPar hE
  obtain ⟨W, w0, keep, turn, done⟩ := hW a
  refine ⟨a, vs, hσ, SqL.of hH, ?_⟩
  refine ⟨fun k m σ H => m = l.length - k ∧ k ≤ l.length ∧ ∃ F E, R X.K O G F σ H E ∧ W k E, ⟨_, rfl, Nat.zero_le _, F, _, r1, w0⟩, ?_⟩
  rintro k m σ2 H2 ⟨rfl, hk, F2, E2, r2, w2⟩
  have hE2 := keep k E2 w2
  obtain ⟨v2, hσ2, rfl, hF2, hO2, vs2, hH2, p2⟩ := r2.at_ i _ hE2
  by_cases hlt : k < l.length
  · obtain ⟨v, ev, pv⟩ := p2.get (List.getElem?_eq_getElem hlt)
    refine .inr ⟨⟨vs2, v, SqL.of hH2, ev⟩, fun σ' H' => ∃ F E, R X.K O G F σ' H' E ∧ W (k + 1) E, fun σ' H' ⟨F3, E3, r3, w3⟩ => ⟨l.length - (k + 1), by omega, rfl, hlt, F3, E3, r3, w3⟩, fun x H' y => ?_⟩
    obtain ⟨rfl, y⟩ := y
    have := y vs2 (SqL.of hH2)
    rw [ev] at this
    cases this
    refine ⟨O, G, F2, E2, _, _, r2, pv, turn k _ E2 (List.getElem?_eq_getElem hlt) w2, fun σ4 H4 F4 E4 s4 r4 q4 => ?_⟩
    refine ⟨O, G, F4, E4, { D' with nx := W (k + 1), ct := W (k + 1), bk := fun E3 => E3[i]? = some (some (.par a (.lst l))) ∧ D'.nx (E3.set i (some (.own (.lst l)))) }, ⟨?_, en.rt, ?_, ?_⟩, r4, q4⟩
    · exact fun F5 σ5 H5 E5 r5 w5 => ⟨F5, E5, r5, w5⟩
    · exact fun F5 σ5 H5 E5 r5 w5 => en.nx _ _ _ _ (r5.toOwn w5.1) w5.2
    · exact fun F5 σ5 H5 E5 r5 w5 => ⟨F5, E5, r5, w5⟩
  · have e : k = l.length := by omega
    subst e
    exact .inl ⟨⟨vs2, SqL.of hH2, Nat.le_of_eq p2.length⟩, en.nx _ _ _ _ (r2.toOwn hE2) (done E2 w2)⟩
end
section
variable {E E0 : En} {nx bk ct : En → Prop} {rt : B → En → Prop} {a : WS} {g : WG} {i : Nat} {l : List D}
/-- F p k x: the state ahead of turn k, l at p -/
theorem x_forO {α : Type} (F : Addr → Nat → α → En) (G : α → En) (P : Nat → α → Prop) (x0 : α) [at_ : AtC E i (.own (.lst l))] (h0 : P 0 x0) (e0 : ∀ p, F p 0 x0 = E.set i (some (.par p (.lst l)))) (hat : ∀ p k x, (F p k x)[i]? = some (some (.par p (.lst l)))) (hG : ∀ p k x, (F p k x).set i (some (.own (.lst l))) = G x)
    (hs : ∀ p k d x, l[k]? = some d → P k x → g d (F p k x) fun E2 => a ⟨fun E' => ∃ y, P (k + 1) y ∧ E' = F p (k + 1) y, rt, fun E3 => E3[i]? = some (some (.par p (.lst l))) ∧ nx (E3.set i (some (.own (.lst l)))), fun E' => ∃ y, P (k + 1) y ∧ E' = F p (k + 1) y⟩ E2)
    (hd : ∀ x, P l.length x → nx (G x)) : sForO i g a ⟨nx, rt, bk, ct⟩ E := by
  refine ⟨l, at_.h.eq, fun p => ⟨fun k E' => ∃ x, P k x ∧ E' = F p k x, ⟨x0, h0, (e0 p).symm⟩, ?_, ?_, ?_⟩⟩
  · rintro k E' ⟨x, _, rfl⟩
    exact hat p k x
  · rintro k d E' hk ⟨x, hx, rfl⟩
    exact hs p k d x hk hx
  · rintro E' ⟨x, hx, rfl⟩
    rw [hG]; exact hd x hx
end
/-! ### a op b op c, run -/
section
variable {E : En} {Q : B → En → Prop} {wr wr' : D → D → (B → Prop) → Prop} {wa wb wc : WO} {o o2 o3 : Opn} {x y z : D} {R A C : Prop} {b : B} {k : Bool}
def chB (wr' : D → D → (B → Prop) → Prop) (wc : WO) (ob : Opn) (b : B) (E2 : En) (Q : B → En → Prop) : Prop := match b with
  | .dat (.bl k) => if k = true then wc E2 fun oc E3 => (match oc.get E3, ob.get E3 with
      | some z, some y' => wr' y' z fun b => Q b E3
      | _, _ => False) else Q (.dat (.bl false)) E2
  | _ => False
def chK (wr wr' : D → D → (B → Prop) → Prop) (wc : WO) (oa ob : Opn) (E2 : En) (Q : B → En → Prop) : Prop := match oa.get E2, ob.get E2 with
  | some x, some y => wr x y fun b => chB wr' wc ob b E2 Q
  | _, _ => False
def chO (wr' : D → D → (B → Prop) → Prop) (ob oc : Opn) (E3 : En) (Q : B → En → Prop) : Prop := match oc.get E3, ob.get E3 with
  | some z, some y' => wr' y' z fun b => Q b E3
  | _, _ => False
instance [e : Ev (wa E fun oa E1 => wb E1 fun ob E2 => chK wr wr' wc oa ob E2 Q) R] : Ev (wChain wr wr' wa wb wc E Q) R := ⟨fun h => e.h h⟩
instance [g : GetC E o x] [g2 : GetC E o2 y] [e : Ev (wr x y fun b => chB wr' wc o2 b E Q) R] : Ev (chK wr wr' wc o o2 E Q) R := ⟨fun h => by unfold chK; rw [g.h, g2.h]; exact e.h h⟩
instance [e : Ev (if k = true then (wc E fun oc E3 => chO wr' o2 oc E3 Q) else Q (.dat (.bl false)) E) R] : Ev (chB wr' wc o2 (.dat (.bl k)) E Q) R := ⟨fun h => e.h h⟩
instance [g2 : GetC E o2 y] [g : GetC E o3 z] [e : Ev (wr' y z fun b => Q b E) R] : Ev (chO wr' o2 o3 E Q) R := ⟨fun h => by unfold chO; rw [g.h, g2.h]; exact e.h h⟩
end
end PW

set_option Elab.async false
set_option linter.all false
set_option autoImplicit false
set_option maxRecDepth 100000
set_option maxHeartbeats 4000000
set_option synthInstance.maxHeartbeats 2000000
set_option synthInstance.maxSize 1000000
namespace PW
open PySem PySem.Spec PyProof.Rows L2
/-! ### for k, v in d.items() -/
def pairD (p : D × D) : D := .tup [p.1, p.2]
def iIt (w : WE) : WI := fun E Q => w E fun b E1 => ∃ kd, b.d = .dct false kd ∧ Q (kd.map pairD) E1
section
variable {K : PySem.W.Frag} {F1 : Hp}
theorem gives_items {a : Addr} {o : Obj} {kv : List (Key × V)} {kd : List (D × D)} (h : F1 a = some (.frz o (.dK kv))) (p : RepK K F1 kv kd) : Gives K (Iti a o kv) F1 (kd.map pairD) where
  go := fun O F σ H E i r hi => ⟨r.f.exact (r.g.exact h rfl) rfl, by rw [p.length]; simpa using hi⟩
  stop := fun O F σ H E r => ⟨r.f.exact (r.g.exact h rfl) rfl, by rw [p.length]; simp⟩
  yld := fun O F σ H E i x H' r hi y => by
    obtain ⟨T, k0, v0, hk, ex, hT, eH⟩ := y
    subst ex eH
    obtain ⟨d, h1, h2⟩ := p.getK hk
    have r1 : R K O F1 F σ (upd H T (.tup [kV k0, v0])) E := r.alloc hT
    obtain ⟨F', s', r', e'⟩ := r1.knowTup upd_same
    refine ⟨F', pairD (kD k0, d), s', r', .tup e' (.cons (rep_kV k0) (.cons ((h2.mono r.g).mono s') .nil)), ?_⟩
    rw [List.getElem?_map, h1]; rfl
end
section
variable {X : Cx} {tg e : Expr} {apos cpos : Pos}
theorem pe_locked {w : WE} (he : ED X e w) : PE X e (fun σ H Q => ∃ (O G F : Hp) (E : En) (Q' : B → List (D × D) → En → Prop), R X.K O G F σ H E ∧ w E (fun b E1 => ∃ kd, b.d = .dct false kd ∧ Q' b kd E1) ∧ ∀ a o kv kd H' F' E' b, Sub F F' → R X.K O G F' σ H' E' → F' a = some (.frz o (.dK kv)) → H' a = some (.frz o (.dK kv)) → RepK X.K F' kv kd → Q' b kd E' → Q (.ref a) H') := ⟨fun pins s σ H Q I h => by
  obtain ⟨O, G, F, E, Q', r, hw, kk⟩ := h
  refine thn (he.run pins s σ H (fun v H1 => ∃ F1 E1 b, Sub F F1 ∧ R X.K O G F1 σ H1 E1 ∧ RR X.K O F1 σ H1 E1 v b ∧ _) I (tE_ok O G F σ H E _ r hw)) fun u s1 ⟨v, H1, I1, rv, F0, E1, b, sb0, r0, p0, kd, ei, q⟩ => ?_
  obtain ⟨F1, sb1, r1, p1⟩ := r0.frz p0
  rw [ei] at p1
  cases p1 with
  | dK h p =>
    cases rv
    rcases r1.lockRd h rfl with ⟨o, hF, hH⟩ | ⟨o, hF, hH⟩ | ⟨hF, hH⟩
    · exact ⟨.ref _, H1, I1, rfl, kk _ _ _ _ _ _ _ _ (sb0.trans sb1) r1 hF hH p q⟩
    · obtain ⟨s2, r2⟩ := r1.lock2 hF hH rfl
      exact ⟨.ref _, H1, I1, rfl, kk _ _ _ _ _ _ _ _ ((sb0.trans sb1).trans s2) r2 upd_same hH (p.mono s2) q⟩
    · obtain ⟨o, I2⟩ := I1.lock hH True.intro
      obtain ⟨s2, r2⟩ := r1.lock (o := o) hF hH rfl
      exact ⟨.ref _, _, I2, rfl, kk _ _ _ _ _ _ _ _ ((sb0.trans sb1).trans s2) r2 upd_same upd_same (p.mono s2) q⟩⟩
theorem id_items {elts : List Expr} {kk : Nat} {tpos : Pos} {w : WE} (he : ED X e w) (hbase : attributeBase e "items" X.env (eval e X.env) = eval e X.env := by rfl) (hline : (apos.endLine == cpos.line) = true := by rfl) :
    ID X (.Tuple elts kk tpos) (.Call (.Attribute e "items" apos) [] [] cpos) (iIt w) := ⟨fun pins s σ H Rr I h => by
  obtain ⟨O, G, F, E, Q', r, hw, kk⟩ := h
  refine (pi_items (pe_locked he) hbase hline).run pins s σ H Rr I ⟨O, G, F, E, fun _ kd E1 => Q' (kd.map pairD) E1, r, hw, fun a o kv kd H' F' E' b sb r' hF hH p q => ?_⟩
  exact ⟨a, o, kv, rfl, hH, kk _ H' F' E' _ sb r' (gives_items hF p) q⟩⟩
end
section
variable {E : En} {QA : List D → En → Prop} {w : WE} {kd : List (D × D)} {R : Prop}
def itemK (b : B) (E : En) (QA : List D → En → Prop) : Prop := ∃ kd, b.d = .dct false kd ∧ QA (kd.map pairD) E
instance [e : Ev (w E fun b E1 => itemK b E1 QA) R] : Ev (iIt w E QA) R := ⟨fun h => e.h h⟩
instance [e : Ev (QA (kd.map pairD) E) R] : Ev (itemK (.dat (.dct false kd)) E QA) R := ⟨fun h => ⟨kd, rfl, e.h h⟩⟩
instance [e : Ev (QA (kd.map pairD) E) R] : Ev (itemK (.own (.dct false kd)) E QA) R := ⟨fun h => ⟨kd, rfl, e.h h⟩⟩
end
/-! ### list(d.values()) -/
def rVals : V → Hp → VK → Prop := fun x H Q => ∃ (d : Addr) (kv : List (Key × V)), x = .ref d ∧ Rd H d (.dK kv) ∧ ∀ p, H p = none → Q (.ref p) (upd H p (.lst (kv.map (·.2))))
def wVals (x : D) (Q : B → Prop) : Prop := match x with
  | .dct false kd => Q (.own (.lst (kd.map (·.2))))
  | _ => False
section
variable {X : Cx} {e : Expr} {te : TE} {p apos cpos pos : Pos}
theorem vals_snd : ∀ {kv : List (Key × V)} {vs : List (Key × Value)}, KV kv vs → ∀ us : List Value, us.length = vs.length → (∀ (j : Nat) (v : Value), us[j]? = some v → ∃ k, vs[j]? = some (k, v)) → Vals (kv.map (·.2)) us
  | _, _, .nil, [], _, _ => .nil
  | _, _, .nil, _ :: _, h, _ => by cases h
  | _, _, .cons r t, [], h, _ => by cases h
  | _, _, .cons r t, u :: us, h, hv => by
    obtain ⟨k, e⟩ := hv 0 u rfl
    have e := Option.some.inj e
    refine .cons (by have := r.2; rw [e] at this; exact this) (vals_snd t us (by simpa using h) fun j v z => ?_)
    obtain ⟨k', e'⟩ := hv (j + 1) v (by simpa using z)
    exact ⟨k', by simpa using e'⟩
theorem pe_listVals (hc : X.calm = true) (he : PE X e te) (hg : Gl X "list") (hm : X.mg "list" = none) (hv : bootBuiltins "list" = some (.type "list")) (hbase : attributeBase e "values" X.env (eval e X.env) = eval e X.env := by rfl) (hline : (apos.endLine == cpos.line) = true := by rfl)
    (hs : starEach [.Call (.Attribute e "values" apos) [] [] cpos] X.env = (false, eval (.Call (.Attribute e "values" apos) [] [] cpos) X.env) :: starEach [] X.env := by rfl) :
    PE X (.Call (.Name "list" p) [.Call (.Attribute e "values" apos) [] [] cpos] [] pos) (fun σ H Q => te σ H fun x H1 => rVals x H1 Q) := by
  refine ⟨fun pins s σ H Q I hq => ?_⟩
  refine wpAny_Call_Name_kw (ld_blt I hg hm hv (PyProof.Rows.callWith_type1 ?_ hs rfl))
  rw [hs]
  refine Calls.spliced_cons (wpAny_Call_method (T := "dict") (id := "dict.values") hbase rfl hline F.plainAttrs_dict F.slot_dict_values F.type_dict_values (thn (he.run pins s σ H _ I hq) fun u s1 ⟨x, H1, I1, rx, d, kv, ex, hd, q⟩ => ?_))
  subst ex
  obtain rfl : u = Value.ref d := rx
  obtain ⟨hz, hs0, vs, rel, hdo⟩ := dk_rd I1.hok hd
  obtain ⟨ep, hat⟩ := hdo.dictAt
  have lk : kv.length = vs.length := Paired.length rel
  have I2 : Inv X pins σ H1 { s1 with heap := s1.heap.push { cls := .type "dict_values", data := .fields #[.ref d] } } := I1.kept (t' := s1.toks) fun b ob q => Heap.get?_push_of_some _ q
  refine ⟨hdo.typeIs, hdo.mapOf.noDict, ?_⟩
  show wpAny _ _ (callWith cpos (.builtin "dict.values") [.ref d] [] []) _ X.xe s1
  refine method_meetsIn F.slot_dict_values F.entry_dict_values rfl (PySem.evalArgs_none ⟨rfl, hdo.typeIs, F.args_dict_values_1 _, _, meets_dict_values (mixKind X.prog X.w) d hs0, ⟨vs, hdo⟩, ?_⟩)
  refine Calls.spliced_nil ?_
  refine PySem.W.kdl_call (PySem.W.kdl_values (knd := mixKind X.prog X.w) (kvs := vs) (ep := ep)) (I1.ok.hd hc) ⟨⟨_, Heap.get?_push_size _ rfl, rfl, rfl⟩, hat.push _⟩ (by omega) fun h' tk acc c hk hS hacc => ?_
  have hn : H1 (s1.heap.push { cls := .type "dict_values", data := .fields #[.ref d] }).objs.size = none := I2.hok.fresh (Nat.le_refl _)
  exact ⟨.ref _, _, I2.laid (o := .lst (kv.map (·.2))) (t' := tk) hk (Nat.le_refl _) ⟨by rw [List.length_map]; exact hz, acc.toList, c, vals_snd rel acc.toList (by rw [Array.length_toList]; exact hacc.1) fun j v e => hacc.2 j v (by rw [← Array.getElem?_toList]; exact e), by rw [Array.toArray_toList]; exact hS⟩, rfl, q _ hn⟩
end
section
variable {K : PySem.W.Frag}
theorem RepK.snd : ∀ {kv : List (Key × V)} {kd : List (D × D)} {F : Hp}, RepK K F kv kd → RepL K F (kv.map (·.2)) (kd.map (·.2))
  | _, _, _, .nil => .nil
  | _, _, _, .cons h r => .cons h r.snd
theorem RepK.fst : ∀ {kv : List (Key × V)} {kd : List (D × D)} {F : Hp}, RepK K F kv kd → kd.map (·.1) = kv.map fun p => kD p.1
  | _, _, _, .nil => rfl
  | _, _, _, .cons h r => by rw [List.map_cons, List.map_cons, r.fst]
theorem k_vals : Op1Ok K rVals wVals := by
  intro O G F σ H E x dx Q Q' r hx q k
  cases dx with
  | dct t kd =>
    cases t with
    | false =>
      obtain ⟨a, kv, ea, h, rk⟩ := hx.dK r.f
      exact ⟨a, kv, ea, h, fun p hp => k _ _ (.lst r hp (ds := kd.map (·.2)) rk.snd (show Q (.own (.lst (kd.map (·.2)))) from q))⟩
    | true => exact (show False from q).elim
  | _ => exact (show False from q).elim
end
section
variable {X : Cx} {e : Expr} {p apos cpos pos : Pos}
theorem ed_listVals {wo : WO} (hc : X.calm = true) (he : OD X e wo) (hg : Gl X "list") (hm : X.mg "list" = none) (hv : bootBuiltins "list" = some (.type "list")) (hbase : attributeBase e "values" X.env (eval e X.env) = eval e X.env := by rfl) (hline : (apos.endLine == cpos.line) = true := by rfl)
    (hs : starEach [.Call (.Attribute e "values" apos) [] [] cpos] X.env = (false, eval (.Call (.Attribute e "values" apos) [] [] cpos) X.env) :: starEach [] X.env := by rfl) :
    ED X (.Call (.Name "list" p) [.Call (.Attribute e "values" apos) [] [] cpos] [] pos) (wUn wVals wo) := ed_of (pe_listVals hc he hg hm hv hbase hline hs) (ok_un k_vals)
end
section
variable {P : B → Prop} {kd : List (D × D)} {R : Prop}
instance [e : Ev (P (.own (.lst (kd.map (·.2))))) R] : Ev (wVals (.dct false kd) P) R := ⟨fun h => e.h h⟩
end
/-! ### sorted(d), d with texts as keys -/
abbrev leS (x y : Str) : Bool := PySem.W.dataLe false PyData.str x y
def rSortK : List V → Hp → VK → Prop := fun xs H Q => ∃ (a : Addr) (kv : List (Key × V)) (ks : List Str), xs = [.ref a] ∧ Rd H a (.dK kv) ∧ kv.map (·.1) = ks.map Sum.inr ∧ ∀ p, H p = none → Q (.ref p) (upd H p (.lst ((ks.mergeSort leS).map V.str)))
theorem each_strs : ∀ {us : List Value} {ks : List Str}, StrsAre us ks → PySem.W.EachIs (fun v (k : Str) => ∃ t, v = .str k t) us ks
  | _, _, .nil => .nil
  | _, _, .cons _ _ t => .cons ⟨_, rfl⟩ (each_strs t)
theorem each_vals : ∀ {us : List Value} {ks : List Str}, PySem.W.EachIs (fun v (k : Str) => ∃ t, v = .str k t) us ks → Vals (ks.map V.str) us
  | _, _, .nil => .nil
  | _, _, .cons r t => .cons r (each_vals t)
section
variable {X : Cx}
theorem cr_sortK (hcalm : X.calm = true) (hu : X.A.units + 70 < cLine) : CallR X (.builtin "sorted") rSortK := by
  intro pins s σ H xs us Q I r q
  obtain ⟨a, kvs, ks, ex, hd, hks, q⟩ := q
  subst ex
  rw [Vals.ref1 r]
  obtain ⟨z, lo, vs, rel, dd⟩ := dk_rd I.hok hd
  obtain ⟨ep, hat⟩ := dd.dictAt
  have hkeys : vs.map (·.1) = ks.map Sum.inr := rel.keys.symm.trans hks
  have hl : vs.length = ks.length := by
    have e := congrArg List.length hkeys
    simpa using e
  have h16 : vs.length ≤ sizeLine := by rw [← (show kvs.length = vs.length from Paired.length rel)]; exact z
  refine Calls.call_function_entry PyProof.Rows.kind_sorted PyProof.Rows.plain_sorted PyProof.Rows.entry_sorted (PyProof.Rows.args_sorted1 _) ?_
  unfold Builtin.«sorted»
  refine wpAny_bind (m := checkCount "sorted" 1 1 _) (wpAny_pure ?_)
  refine wpAny_bind (PySem.W.kdu_collect (A := X.A.in1) (PySem.W.kdl_dict (knd := mixKind X.prog X.w) (kvs := vs) (ep := ep) lo) (I.ok.hd hcalm) hat h16 fun h' tk acc hk hacc => ?_)
  have hal : acc.toList.length = ks.length := by rw [Array.length_toList, hacc.1, hl]
  have hS : StrsAre acc.toList ks := strs_at hal fun j v e => by
    obtain ⟨k, x, e1, e2⟩ := hacc.2 j v (by rw [← Array.getElem?_toList]; exact e)
    have e3 : (vs.map (·.1))[j]? = some k := by rw [List.getElem?_map, e1]; rfl
    rw [hkeys, List.getElem?_map] at e3
    obtain ⟨y, e4, e5⟩ := Option.map_eq_some_iff.mp e3
    subst e5
    obtain ⟨t, ev⟩ := Value.isStrOf_shape (x := y) (v := v) e2
    exact ⟨y, t, e4, ev⟩
  have I1 : Inv X pins σ H { s with heap := h', toks := tk } := I.kept hk
  refine wpAny_bind (wpAny_newList ?_ (by rw [hal, ← hl]; exact h16))
  have hoL : (h'.push (seqObj "list" acc.toList.toArray 0)).get? h'.objs.size = some (seqObj "list" acc.toList.toArray 0) := Heap.get?_push_size _ rfl
  show wpAny _ _ _ _ _ { s with heap := h'.push (seqObj "list" acc.toList.toArray 0), toks := tk }
  have hE := each_strs hS
  refine wpAny_bind (wpAny_holding (PySem.W.list_sort_data (R := fun v (k : Str) => ∃ t, v = .str k t) (enc := PyData.str) (bs := ks) (vs := acc.toList) (s := { s with heap := h'.push (seqObj "list" acc.toList.toArray 0), toks := tk }) hoL hE (hE.mono fun v k ⟨t, e⟩ => ⟨[], by rw [e]; exact .str k t, by simp⟩)
    (PySem.W.AllAlike.of fun _ _ => rfl) (PySem.W.Sortable.others fun _ => ⟨by simp, by simp⟩) (by rw [← hl]; exact h16) (fun b _ => ?_) fun out hol heo => ?_))
  · have e1 : X.A.in1.units ≤ X.A.units + 1 := by
      show X.A.in1.units ≤ _
      first | (simp [Around.in1]; done) | (unfold Around.in1; dsimp only; omega)
    show X.A.in1.units + 1 + 0 < cLine
    omega
  · obtain ⟨c, hc⟩ := PyProof.Rows.sortedHeap_at (vs := acc.toList) (out := out.toArray) hoL
    refine wpAny_pure ⟨_, rfl, .ref h'.objs.size, upd H h'.objs.size (.lst ((ks.mergeSort leS).map V.str)), I1.laid (t' := tk) (fun b u e => ?_) (Nat.le_refl _) ⟨?_, out, c, each_vals heo, hc⟩, rfl, q _ (I1.hok.fresh (Nat.le_refl _))⟩
    · have hb : b < h'.objs.size := Heap.lt_size e
      rw [PyProof.Rows.sortedHeap_old (Nat.ne_of_lt hb) (by rw [size_push']; exact Nat.lt_succ_of_lt hb)]
      exact Heap.get?_push_of_some _ e
    · rw [List.length_map, List.length_mergeSort, ← hl]; exact h16
end

def wSortK (x : D) (Q : B → Prop) : Prop := match x with
  | .dct false kd => ∃ ks : List (List Nat), kd.map (·.1) = ks.map D.str ∧ Q (.own (.lst ((ks.map D.str).mergeSort leD)))
  | _ => False
theorem leS_mk (a b : List Nat) : leS (mkS a) (mkS b) = leD (.str a) (.str b) := by
  show PySem.W.dataLe false PyData.str _ _ = PySem.W.dataLe false D.py _ _
  rw [PySem.W.dataLe_eq, PySem.W.dataLe_eq]; simp only [D.py]
theorem sort_mk (ks : List (List Nat)) : ((ks.map mkS).mergeSort leS) = (ks.mergeSort fun a b => leD (.str a) (.str b)).map mkS := (List.map_mergeSort (f := mkS) (r := fun a b => leD (.str a) (.str b)) (s := leS) (fun a _ b _ => (leS_mk a b).symm)).symm
theorem sort_str (ks : List (List Nat)) : ((ks.map D.str).mergeSort leD) = (ks.mergeSort fun a b => leD (.str a) (.str b)).map D.str := (List.map_mergeSort (f := D.str) (r := fun a b => leD (.str a) (.str b)) (s := leD) (fun a _ b _ => rfl)).symm
section
variable {K : PySem.W.Frag}
theorem kD_strs : ∀ {kv : List (Key × V)} {ks : List (List Nat)}, (kv.map fun p => kD p.1) = ks.map D.str → kv.map (·.1) = (ks.map mkS).map Sum.inr
  | [], [], _ => rfl
  | [], _ :: _, h => by cases h
  | _ :: _, [], h => by cases h
  | (k, v) :: kv, s :: ks, h => by
    rw [List.map_cons, List.map_cons] at h
    injection h with h1 h2
    rw [List.map_cons, List.map_cons, List.map_cons, kD_strs h2]
    refine congrArg (· :: _) ?_
    cases k with
    | inl n => exact D.noConfusion h1
    | inr t =>
      have : (t : Str).cps.toList = s := D.str.inj h1
      rw [← this]
theorem strs_repl {F : Hp} : ∀ l : List (List Nat), RepL K F ((l.map mkS).map V.str) (l.map D.str)
  | [] => .nil
  | s :: l => .cons (.str s) (strs_repl l)
theorem k_sortK : Op1Ok K (fun x H Q => rSortK [x] H Q) wSortK := by
  intro O G F σ H E x dx Q Q' r hx q k
  cases dx with
  | dct t kd =>
    cases t with
    | false =>
      obtain ⟨ks, hk, q⟩ := (show ∃ ks : List (List Nat), kd.map (·.1) = ks.map D.str ∧ Q (.own (.lst ((ks.map D.str).mergeSort leD))) from q)
      obtain ⟨a, kv, ea, h, rk⟩ := hx.dK r.f
      subst ea
      refine ⟨a, kv, ks.map mkS, rfl, h, kD_strs (by rw [← rk.fst]; exact hk), fun p hp => ?_⟩
      rw [sort_mk]
      rw [sort_str] at q
      exact k _ _ (.lst r hp (strs_repl _) q)
    | true => exact (show False from q).elim
  | _ => exact (show False from q).elim
end
section
variable {P : B → Prop} {kd : List (D × D)} {RS : List (List Nat) → Prop}
instance [e : ∀ ks : List (List Nat), Ev (P (.own (.lst ((ks.map D.str).mergeSort leD)))) (RS ks)] : Ev (wSortK (.dct false kd) P) (∃ ks : List (List Nat), kd.map (·.1) = ks.map D.str ∧ RS ks) := ⟨fun ⟨ks, h1, h⟩ => ⟨ks, h1, (e ks).h h⟩⟩
end
/-! ### x.startswith(y), x.endswith(y) -/
theorem starts_mk (a b : List Nat) : Txt.startswith (mkS a) (mkS b) = b.isPrefixOf a := by
  unfold Txt.startswith
  rw [StrLaws.subAt_eq, mkS_length, mkS_length]
  show (decide (0 + b.length ≤ a.length) && ((a.drop 0).take b.length == b)) = _
  rw [Bool.eq_iff_iff, List.isPrefixOf_iff_prefix, List.prefix_iff_eq_take, Bool.and_eq_true, decide_eq_true_iff, beq_iff_eq, List.drop_zero]
  constructor
  · rintro ⟨_, h⟩; exact h.symm
  · intro h
    refine ⟨?_, h.symm⟩
    have := congrArg List.length h
    rw [List.length_take] at this; omega
theorem ends_mk (a b : List Nat) : Txt.endswith (mkS a) (mkS b) = b.isSuffixOf a := by
  unfold Txt.endswith
  rw [StrLaws.subAt_eq, mkS_length, mkS_length]
  show (decide (0 + b.length ≤ a.length) && ((a.drop (a.length - b.length)).take b.length == b)) = _
  rw [Bool.eq_iff_iff, List.isSuffixOf_iff_suffix, List.suffix_iff_eq_drop, Bool.and_eq_true, decide_eq_true_iff, beq_iff_eq]
  constructor
  · rintro ⟨h1, h⟩
    rw [List.take_of_length_le (by rw [List.length_drop]; omega)] at h
    exact h.symm
  · intro h
    have h1 := congrArg List.length h
    rw [List.length_drop] at h1
    refine ⟨by omega, ?_⟩
    rw [← h, List.take_of_length_le (Nat.le_refl _)]
section
variable {K : PySem.W.Frag}
theorem k_starts : Op2Ok K (fun x y H Q => ∃ a b, x = .str a ∧ [y] = [.str b] ∧ Q (.bl (Txt.startswith a b)) H) wStarts := by
  intro O G F σ H E x y dx dy Q Q' r hx hy q k
  cases dx with
  | str a =>
    cases dy with
    | str b =>
      refine ⟨mkS a, mkS b, hx.str, by rw [hy.str], ?_⟩
      rw [starts_mk]
      exact k _ _ (.dat r (.bl _) q)
    | _ => exact (show False from q).elim
  | _ => exact (show False from q).elim
theorem k_ends : Op2Ok K (fun x y H Q => ∃ a b, x = .str a ∧ [y] = [.str b] ∧ Q (.bl (Txt.endswith a b)) H) wEnds := by
  intro O G F σ H E x y dx dy Q Q' r hx hy q k
  cases dx with
  | str a =>
    cases dy with
    | str b =>
      refine ⟨mkS a, mkS b, hx.str, by rw [hy.str], ?_⟩
      rw [ends_mk]
      exact k _ _ (.dat r (.bl _) q)
    | _ => exact (show False from q).elim
  | _ => exact (show False from q).elim
end
section
variable {a b : List Nat} {P : B → Prop} {R : Prop}
instance [e : Ev (P (.dat (.bl (b.isPrefixOf a)))) R] : Ev (wStarts (.str a) (.str b) P) R := ⟨fun h => e.h h⟩
instance [e : Ev (P (.dat (.bl (b.isSuffixOf a)))) R] : Ev (wEnds (.str a) (.str b) P) R := ⟨fun h => e.h h⟩
end
/-! ### comprehensions with a test, over a family of states -/
def gW (p : D → Bool) (f : D → D) (ds : List D) (J : En → Prop) : Nat → List D → En → Prop := fun i acc E' => acc = ((ds.take i).filter p).map f ∧ J E'
def yG (p : D → Bool) (f : D → D) (ds : List D) (vs : List Nat) (J : En → Prop) (i : Nat) (y : B) (E4 : En) : Prop := (((ds.take i).filter p).map f).length < 16777216 ∧ gW p f ds J (i + 1) (((ds.take i).filter p).map f ++ [y.d]) (wipeE E4 vs)
def nG (p : D → Bool) (f : D → D) (ds : List D) (vs : List Nat) (J : En → Prop) (i : Nat) (E3 : En) : Prop := gW p f ds J (i + 1) (((ds.take i).filter p).map f) (wipeE E3 vs)
section
variable {α : Type} {E : En} {Q : B → En → Prop} {t : WT} {we : WE} {wg : WG} {vs : List Nat} {ds : List D}
theorem x_lcG (p : D → Bool) (f : D → D) (F : α → En) (pr : α → Prop) (x0 : α) (e0 : wipeE E vs = F x0) (p0 : pr x0) {G : α → En} [e9 : ∀ x, BackC (F x) E vs (G x)]
    (hs : ∀ (i : Nat) (d : D) (x : α), ds[i]? = some d → pr x → wg d (F x) fun E2 => t E2 fun b E3 => if b = true then we E3 (yG p f ds vs (jP F pr) i) else nG p f ds vs (jP F pr) i E3)
    (hd : ∀ x, pr x → Q (.own (.lst ((ds.filter p).map f))) (G x)) : lcK wg t we vs ds E Q := by
  refine x_lcK (gW p f ds (jP F pr)) ⟨rfl, x0, p0, e0⟩ ?_ ?_
  · rintro i d acc E' hi ⟨rfl, x, hx, rfl⟩
    exact hs i d x hi hx
  · rintro acc E' ⟨rfl, x, hx, rfl⟩
    rw [(e9 x).h, List.take_length]; exact hd x hx
theorem yG_c {p : D → Bool} {f : D → D} {F : α → En} {pr : α → Prop} {i : Nat} {E4 E5 : En} {d : D} {yb : B} {v : D} (x : α) (hi : ds[i]? = some d) (hl : ds.length ≤ 16777216) [dv : DtC yb v] [hw : WipeC E4 vs E5] (he : E5 = F x) (hpr : pr x) (hp : p d = true) (hf : v = f d) : yG p f ds vs (jP F pr) i yb E4 := by
  refine ⟨?_, ?_, x, hpr, by rw [hw.h, he]⟩
  · rw [List.length_map]
    have := List.length_filter_le p (ds.take i)
    rw [List.length_take] at this
    have := (List.getElem?_eq_some_iff.mp hi).1
    omega
  · rw [take_snoc hi, List.filter_append, List.filter_cons_of_pos hp, List.map_append, dv.h, hf]; rfl
theorem nG_c {p : D → Bool} {f : D → D} {F : α → En} {pr : α → Prop} {i : Nat} {E3 E5 : En} {d : D} (x : α) (hi : ds[i]? = some d) [hw : WipeC E3 vs E5] (he : E5 = F x) (hpr : pr x) (hp : p d = false) : nG p f ds vs (jP F pr) i E3 := by
  refine ⟨?_, x, hpr, by rw [hw.h, he]⟩
  rw [take_snoc hi, List.filter_append, List.filter_cons_of_neg (by rw [hp]; decide)]; simp
end
end PW

set_option Elab.async false
set_option linter.all false
set_option autoImplicit false
set_option maxRecDepth 100000
set_option maxHeartbeats 4000000
set_option synthInstance.maxHeartbeats 2000000
set_option synthInstance.maxSize 1000000
namespace PW
open PySem PySem.Spec PyProof.Rows L2
/-! ### dict comprehensions, keys numbers or texts -/
def dcK (wg : WG) (wt : WT) (wk we : WE) (vs : List Nat) (ds : List D) (E1 : En) (Q : B → En → Prop) : Prop := ∃ W : Nat → List (D × D) → En → Prop, W 0 [] (wipeE E1 vs) ∧
  (∀ i d acc E', ds[i]? = some d → W i acc E' → wg d E' fun E2 => wt E2 fun b E3 => if b = true then wk E3 fun k E4 => we E4 fun y E5 => keyOk false k.d = true ∧ acc.length < 16777216 ∧ W (i + 1) (putD acc k.d y.d) (wipeE E5 vs) else W (i + 1) acc (wipeE E3 vs)) ∧
  ∀ acc E', W ds.length acc E' → Q (.own (.dct false acc)) (backE E' E1 vs)
def wDc (wi : WI) (wg : WG) (wt : WT) (wk we : WE) (vs : List Nat) : WE := fun E Q => wi E fun ds E1 => dcK wg wt wk we vs ds E1 Q
section
variable {K : PySem.W.Frag}
theorem ok_dcK {wi : WI} {wg : WG} {wt : WT} {wk we : WE} {vs : List Nat} {O G F : Hp} {σ : L2.St} {H : Hp} {E : En} {Q : B → En → Prop} {Qv : VK} (r : R K O G F σ H E) (h : wDc wi wg wt wk we vs E Q)
    (kv : ∀ v H' F' E' b, Sub F F' → R K O G F' σ H' E' → RR K O F' σ H' E' v b → Q b E' → Qv v H') : tDc (tI K wi) (tGv K vs wg) (tT K wt) (tE K wk) (tE K we) vs σ H Qv := by
  refine tI_bind r h fun J H1 F1 E1 ds s1 r1 g ⟨W, w0, turn, done⟩ => ?_
  intro D hD
  have nD := r1.f.gone hD
  have oD := r1.oNone hD
  refine ⟨fun i m H => m = ds.length - i ∧ i ≤ ds.length ∧ ∃ F E acc xs, Sub F1 F ∧ F D = none ∧ R K (upd O D (.dK xs)) F1 F (L2.wipe σ vs) H E ∧ RepK K F xs acc ∧ W i acc E, ⟨_, rfl, Nat.zero_le _, F1, _, [], [], Sub.refl F1, nD, ?_, .nil, w0⟩, ?_⟩
  · have r2 := ((r1.alloc (u := .dK []) hD).wipe vs)
    have r3 := r2.hide upd_same nD (fun w => by
      obtain ⟨i, b, v, e1, e2, e3⟩ := w
      exact r1.notOwned hD ⟨i, b, v, (wipeE_some e1).1, (wipe_some e2).1, e3⟩)
    exact ⟨Sub.refl F1, r3.f, r3.o, r3.len, r3.at_, r3.nd⟩
  · rintro i m H2 ⟨rfl, hi, F2, E2, acc, xs, s2, n2, r2, p2, w2⟩
    by_cases hlt : i < ds.length
    · refine .inr ⟨g.go _ F2 _ H2 E2 i r2 hlt, _, fun H' h => h, fun x H3 y => ?_⟩
      obtain ⟨F3, d, s3, r3, p3, e3⟩ := g.yld _ F2 _ H2 E2 i x H3 r2 hlt y
      refine ⟨_, _, F3, E2, d, _, r3, p3, turn i d acc E2 e3 w2, fun σ4 H4 F4 E4 hw4 s4 r4 q4 => ?_⟩
      rw [wipe_wipe] at hw4
      refine ⟨hw4, tT_bind r4 q4 fun b H5 F5 E5 s5 r5 q5 => ?_⟩
      have keep : ∀ {F' H' E'} {xs : List (Key × V)}, R K (upd O D (.dK xs)) F1 F' σ4 H' E' → F' D = none := fun {F' H' E' xs} r' => by
        rcases (r'.o D _ upd_same).2 with z | z
        · exact z
        · cases z
      cases b with
      | true =>
        have q5 : wk E5 fun k E4 => we E4 fun y E5 => keyOk false k.d = true ∧ acc.length < 16777216 ∧ W (i + 1) (putD acc k.d y.d) (wipeE E5 vs) := q5
        refine tE_bind r5 q5 fun zk H6 F6 E6 bk s6 r6 p6 q6 => ?_
        obtain ⟨F7, s7, r7, p7⟩ := r6.frz p6
        refine tE_bind r7 q6 fun z H8 F8 E8 b8 s8 r8 p8 q8 => ?_
        obtain ⟨F9, s9, r9, p9⟩ := r8.frz p8
        obtain ⟨okk, hlen, q8⟩ := q8
        obtain ⟨key, e1, e2⟩ := p7.key okk
        have n9 := keep r9
        have pl : RepK K F9 xs acc := p2.mono ((((s3.trans s4).trans s5).trans (s6.trans s7)).trans (s8.trans s9))
        refine ⟨xs, key, e2, (r9.o D _ upd_same).1, by rw [pl.length, line_eq]; exact hlen, ds.length - (i + 1), by omega, rfl, hlt, F9, wipeE E8 vs, putD acc bk.d b8.d, L2.putK xs key z, ((((s2.trans s3).trans s4).trans s5).trans (s6.trans s7)).trans (s8.trans s9), n9, ?_, ?_, q8⟩
        · obtain ⟨r10, w10⟩ := r9.unhide (u' := .dK (L2.putK xs key z)) n9 oD
          have r11 := (r10.wipe vs)
          rw [hw4] at r11
          refine r11.hide upd_same n9 fun w => w10 ?_
          obtain ⟨j, b, v, e1, e2, e3⟩ := w
          rw [← hw4] at e2
          exact ⟨j, b, v, (wipeE_some e1).1, (wipe_some e2).1, e3⟩
        · rw [e1]
          exact pl.put p9 key
      | false =>
        have q5 : W (i + 1) acc (wipeE E5 vs) := q5
        refine ⟨ds.length - (i + 1), by omega, rfl, hlt, F5, wipeE E5 vs, acc, xs, ((s2.trans s3).trans s4).trans s5, keep r5, ?_, p2.mono ((s3.trans s4).trans s5), q5⟩
        have r9 := r5.wipe vs
        rw [hw4] at r9
        exact r9
    · have e : i = ds.length := by omega
      subst e
      refine .inl ⟨g.stop _ F2 _ H2 E2 r2, ?_⟩
      obtain ⟨r3, w3, hD2⟩ := r2.unhide0 n2 oD
      have r3 : R K O G F2 (L2.wipe σ vs) H2 E2 := ⟨r1.g.trans r3.g, r3.f, r3.o, r3.len, r3.at_, r3.nd⟩
      have r4 := r1.back s2 r3
      refine kv _ _ F2 _ (.own (.dct false acc)) (s1.trans s2) r4 ⟨⟨D, rfl, n2, oD, ⟨xs, hD2, p2⟩⟩, fun a ea w => ?_⟩ (done acc E2 w2)
      cases ea
      obtain ⟨j, b, v, e1, e2, e3⟩ := w
      rcases backE_some e1 with ⟨h1, h2⟩ | ⟨d, h1, _⟩
      · exact w3 ⟨j, b, v, h2, by rw [wipe_at h1]; exact e2, e3⟩
      · subst h1; cases v <;> cases e3
theorem ok_dc {wi : WI} {wg : WG} {wt : WT} {wk we : WE} {vs : List Nat} : EOk K (tDc (tI K wi) (tGv K vs wg) (tT K wt) (tE K wk) (tE K we) vs) (wDc wi wg wt wk we vs) := fun O G F σ H E Q r h => ok_dcK r h fun v H' F' E' b s r' p q => ⟨F', E', b, s, r', p, q⟩
end
section
variable {X : Cx}
theorem ed_dc {kx vx tg iter : Expr} {ifs : List Expr} {scope : Scope} {own : List (Str × Nat)} {pos : Pos} {wi : WI} {wg : WG} {wt : WT} {wk we : WE} {vs : List Nat} (hc : X.calm = true) (hN : X.N.Nodup) (hvs : own.map (·.2) = vs) (hi : ID X tg iter wi) (ok : BlkOk X.N X.env.scope scope own)
    (hg : ∀ (s : Shared) (H : Hp) (C : Addr) (cl : List (Str × Addr)) (fp : List Addr), GvD (X.blk s H scope (compEnvC scope cl C X.env) fp) vs tg wg) (ht : ∀ (s : Shared) (H : Hp) (C : Addr) (cl : List (Str × Addr)) (fp : List Addr), TsD (X.blk s H scope (compEnvC scope cl C X.env) fp) ifs wt)
    (hk : ∀ (s : Shared) (H : Hp) (C : Addr) (cl : List (Str × Addr)) (fp : List Addr), ED (X.blk s H scope (compEnvC scope cl C X.env) fp) kx wk)
    (he : ∀ (s : Shared) (H : Hp) (C : Addr) (cl : List (Str × Addr)) (fp : List Addr), ED (X.blk s H scope (compEnvC scope cl C X.env) fp) vx we) (hs : ∀ x, foldedSetIterable iter X.env x = pure x := by intro _; rfl) :
    ED X (.DictComp kx vx [⟨tg, iter, ifs, 0⟩] scope pos) (wDc wi wg wt wk we vs) := by
  subst hvs
  exact ed_of (pe_dc hc hN hi ok hg ht hk he hs) ok_dc
end
section
variable {E : En} {Q : B → En → Prop} {t : WT} {wk we : WE} {wg : WG} {wi : WI} {vs : List Nat} {ds : List D} {R : Prop}
instance [e : Ev (wi E fun ds E1 => dcK wg t wk we vs ds E1 Q) R] : Ev (wDc wi wg t wk we vs E Q) R := ⟨fun h => e.h h⟩
/-- keys f, values g of each item, no test; the state comes back -/
def kvD (f g : D → D) (ds : List D) : List (D × D) := ds.foldl (fun acc d => putD acc (f d) (g d)) []
def dW (f g : D → D) (ds : List D) (E0 : En) : Nat → List (D × D) → En → Prop := fun i acc E' => acc = kvD f g (ds.take i) ∧ acc.length ≤ i ∧ E' = E0
def ddK (f g : D → D) (ds : List D) (vs : List Nat) (E0 : En) (i : Nat) (k y : B) (E5 : En) : Prop := keyOk false k.d = true ∧ (kvD f g (ds.take i)).length < 16777216 ∧ dW f g ds E0 (i + 1) (putD (kvD f g (ds.take i)) k.d y.d) (wipeE E5 vs)
theorem putD_len (kd : List (D × D)) (k v : D) : (putD kd k v).length ≤ kd.length + 1 := by
  unfold putD; split <;> simp
theorem kvD_len (f g : D → D) (ds : List D) : (kvD f g ds).length ≤ ds.length := by
  have : ∀ (l : List D) (acc : List (D × D)), (l.foldl (fun acc d => putD acc (f d) (g d)) acc).length ≤ acc.length + l.length := by
    intro l
    induction l with
    | nil => intro acc; simp
    | cons d l ih =>
      intro acc
      rw [List.foldl_cons, List.length_cons]
      have h1 := ih (putD acc (f d) (g d))
      have h2 := putD_len acc (f d) (g d)
      omega
  have := this ds []
  simpa [kvD] using this
theorem x_dcM (f g : D → D) {E0 E9 : En} [e0 : WipeC E vs E0] [e9 : BackC E0 E vs E9] (hs : ∀ (i : Nat) (d : D), ds[i]? = some d → wg d E0 fun E2 => t E2 fun b E3 => if b = true then wk E3 fun k E4 => we E4 (ddK f g ds vs E0 i k) else dW f g ds E0 (i + 1) (kvD f g (ds.take i)) (wipeE E3 vs))
    (hd : Q (.own (.dct false (kvD f g ds))) E9) : dcK wg t wk we vs ds E Q := by
  refine ⟨dW f g ds E0, ⟨rfl, Nat.le_refl _, e0.h⟩, ?_, ?_⟩
  · rintro i d acc E' hi ⟨rfl, _, rfl⟩
    have := hs i d hi
    exact this
  · rintro acc E' ⟨rfl, _, rfl⟩
    rw [e9.h, List.take_length]; exact hd
end
/-! ### distinct keys -/
theorem kvD_distinct (f g : D → D) : ∀ (ds : List D), (ds.Pairwise fun a b => eqD (f a) (f b) = false) → kvD f g ds = ds.map fun d => (f d, g d) := by
  have gen : ∀ (ds : List D) (acc : List (D × D)), (ds.Pairwise fun a b => eqD (f a) (f b) = false) → (∀ p ∈ acc, ∀ d ∈ ds, eqD p.1 (f d) = false) → ds.foldl (fun acc d => putD acc (f d) (g d)) acc = acc ++ ds.map fun d => (f d, g d) := by
    intro ds
    induction ds with
    | nil => intro acc _ _; simp
    | cons d ds ih =>
      intro acc hp ha
      obtain ⟨h1, h2⟩ := List.pairwise_cons.mp hp
      rw [List.foldl_cons]
      have : putD acc (f d) (g d) = acc ++ [(f d, g d)] := by
        unfold putD
        rw [if_neg]
        rw [Bool.not_eq_true, List.any_eq_false]
        intro p hp
        rw [ha p hp d List.mem_cons_self]; decide
      rw [this, ih _ h2, List.map_cons, List.append_assoc]
      · rfl
      · intro p hp e he
        rcases List.mem_append.mp hp with z | z
        · exact ha p z e (List.mem_cons_of_mem _ he)
        · rw [List.mem_singleton.mp z]; exact h1 e he
  intro ds h
  have := gen ds [] h (fun p hp => absurd hp List.not_mem_nil)
  unfold kvD
  rw [this, List.nil_append]
/-! ### enumerate(l) -/
def enumD (ds : List D) : List D := ds.zipIdx.map fun p => .tup [.int (p.2 : Nat), p.1]
theorem enumD_get {ds : List D} {i : Nat} {d : D} (h : (enumD ds)[i]? = some d) : ∃ x, ds[i]? = some x ∧ d = .tup [.int (i : Nat), x] := by
  unfold enumD at h
  rw [List.getElem?_map, List.getElem?_zipIdx] at h
  cases e : ds[i]? with
  | none => rw [e] at h; cases h
  | some x =>
    rw [e] at h
    refine ⟨x, rfl, ?_⟩
    have := (Option.some.inj h).symm
    simpa using this
theorem enumD_len (ds : List D) : (enumD ds).length = ds.length := by unfold enumD; simp
def iEn (w : WE) : WI := fun E Q => w E fun b E1 => ∃ l, b.d = .lst l ∧ Q (enumD l) E1
section
variable {K : PySem.W.Frag} {F1 : Hp}
theorem gives_enum {a : Addr} {ds : List D} {vs : List V} (h : SqL K F1 a vs) (p : RepL K F1 vs ds) : Gives K (Ite K a) F1 (enumD ds) where
  go := fun O F σ H E i r hi => by
    rw [enumD_len] at hi
    obtain ⟨v, e, _⟩ := p.get (List.getElem?_eq_getElem hi)
    exact ⟨vs, v, r.f.sql (r.g.sql h), e⟩
  stop := fun O F σ H E r => ⟨vs, r.f.sql (r.g.sql h), by rw [enumD_len]; exact Nat.le_of_eq p.length⟩
  yld := fun O F σ H E i x H' r hi y => by
    rw [enumD_len] at hi
    obtain ⟨T, x0, ex, hT, eH, y⟩ := y
    subst ex eH
    obtain ⟨v, e, p1⟩ := p.get (List.getElem?_eq_getElem hi)
    have ey := y vs (r.f.sql (r.g.sql h))
    have ex0 : x0 = v := by rw [e] at ey; exact (Option.some.inj ey).symm
    subst ex0
    have r1 : R K O F1 F σ (upd H T (.tup [.int (i : Nat), x0])) E := r.alloc hT
    obtain ⟨F', s', r', e'⟩ := r1.knowTup upd_same
    refine ⟨F', .tup [.int (i : Nat), ds[i]], s', r', .tup e' (.cons (.int _) (.cons ((p1.mono r.g).mono s') .nil)), ?_⟩
    unfold enumD
    rw [List.getElem?_map, List.getElem?_zipIdx, List.getElem?_eq_getElem hi]
    simp
end
section
variable {X : Cx} {e : Expr} {p pos tpos : Pos} {elts : List Expr} {kk : Nat}
def tLstF (K : PySem.W.Frag) (w : WE) : TA := fun σ H Q => ∃ (O G F : Hp) (E : En) (Q' : B → List D → En → Prop), R K O G F σ H E ∧ w E (fun b E1 => ∃ l, b.d = .lst l ∧ Q' b l E1) ∧ ∀ a vs l H' F' E' b, Sub F F' → R K O G F' σ H' E' → SqL K F' a vs → RepL K F' vs l → Q' b l E' → Q [.ref a] H'
theorem pa_lstF {w : WE} (he : ED X e w) (hs : starEach [e] X.env = (false, eval e X.env) :: starEach [] X.env := by rfl) : PA X [e] (tLstF X.K w) := by
  have h := pa_cons he pa_nil hs
  refine ⟨fun pos pins s σ H Q I h2 => ?_⟩
  obtain ⟨O, G, F, E, Q', r, hw, kk⟩ := h2
  refine h.run pos pins s σ H Q I ?_
  refine tE_bind r hw fun v H1 F1 E1 b s1 r1 p1 ⟨l, el, q⟩ => ?_
  obtain ⟨F2, s2, r2, p2⟩ := r1.frz p1
  rw [el] at p2
  cases p2 with
  | lst h p => exact kk _ _ _ _ _ _ _ (s1.trans s2) r2 (SqL.of h) p q
theorem id_enum {w : WE} (hg : Gl X "enumerate") (hm : X.mg "enumerate" = none) (he : ED X e w) (hs : starEach [e] X.env = [(false, eval e X.env)] := by rfl) :
    ID X (.Tuple elts kk tpos) (.Call (.Name "enumerate" p) [e] [] pos) (iEn w) := ⟨fun pins s σ H Rr I h => by
  obtain ⟨O, G, F, E, Q', r, hw, kk⟩ := h
  refine (pi_enum hg hm (pa_lstF he hs) hs).run pins s σ H Rr I ⟨O, G, F, E, fun _ l E1 => Q' (enumD l) E1, r, hw, fun a vs l H' F' E' b sb r' h p q => ?_⟩
  exact ⟨a, vs, rfl, r'.f.sql h, kk _ H' F' E' _ sb r' (gives_enum h p) q⟩⟩
end
section
variable {E : En} {QA : List D → En → Prop} {w : WE} {l : List D} {R : Prop}
def enK (b : B) (E : En) (QA : List D → En → Prop) : Prop := ∃ l, b.d = .lst l ∧ QA (enumD l) E
instance [e : Ev (w E fun b E1 => enK b E1 QA) R] : Ev (iEn w E QA) R := ⟨fun h => e.h h⟩
instance [e : Ev (QA (enumD l) E) R] : Ev (enK (.dat (.lst l)) E QA) R := ⟨fun h => ⟨l, rfl, e.h h⟩⟩
instance [e : Ev (QA (enumD l) E) R] : Ev (enK (.own (.lst l)) E QA) R := ⟨fun h => ⟨l, rfl, e.h h⟩⟩
end
/-! ### sep.join(l) -/
section
variable {K : PySem.W.Frag}
theorem joinD_cons (a s : List Nat) (ss : List (List Nat)) : joinD a (s :: ss) = s ++ ss.flatMap fun t => a ++ t := by
  unfold joinD
  induction ss generalizing s with
  | nil => simp
  | cons t ss ih =>
    rw [List.intersperse_cons₂, List.flatten_cons, List.flatten_cons, ih t, List.flatMap_cons]
    simp
theorem joinD_nil (a : List Nat) : joinD a [] = [] := rfl
theorem joinD_empty (ss : List (List Nat)) : joinD [] ss = ss.flatten := by
  cases ss with
  | nil => rfl
  | cons s ss =>
    rw [joinD_cons, List.flatten_cons]
    congr 1
    show ss.flatMap id = _
    rw [List.flatMap_id]
theorem glue_fold (a : List Nat) : ∀ (ss : List (List Nat)) (acc : Array Nat), ((ss.map mkS).foldl (fun acc p => acc ++ (mkS a).cps ++ p.cps) acc).toList = acc.toList ++ ss.flatMap fun t => a ++ t
  | [], acc => by simp
  | s :: ss, acc => by
    rw [List.map_cons, List.foldl_cons, glue_fold a ss, List.flatMap_cons]
    simp [mkS]
theorem join_mk (a : List Nat) (ss : List (List Nat)) : Txt.join (mkS a) (ss.map mkS) = mkS (joinD a ss) := by
  unfold Txt.join Builtin.Str.glued
  cases ss with
  | nil => rfl
  | cons s ss =>
    rw [joinD_cons]
    refine PySem.Str.ext' (Array.toList_inj.mp ?_)
    show (List.foldl (fun acc (p : PySem.Str) => acc ++ (mkS a).cps ++ p.cps) (mkS s).cps (ss.map mkS)).toList = _
    rw [glue_fold]
theorem strs_vs {F : Hp} : ∀ {vs : List V} {ss : List (List Nat)}, RepL K F vs (ss.map D.str) → vs = (ss.map mkS).map V.str
  | _, [], h => by cases h; rfl
  | _, s :: ss, h => by
    cases h with
    | cons a b =>
      cases a
      rw [strs_vs b]; rfl
theorem k_join : Op2Ok K (fun x y H Q => ∃ a p, ∃ ys : List Str, x = .str a ∧ [y] = [.ref p] ∧ (SqL K H p (ys.map V.str) ∨ SqT K H p (ys.map V.str)) ∧ (ys.map (·.length)).sum + ys.length * a.length ≤ 16777216 ∧ Q (.str (Txt.join a ys)) H) wJoin := by
  intro O G F σ H E x y dx dy Q Q' r hx hy q k
  cases dx with
  | str a =>
    obtain ⟨ss, hy2, hl, q⟩ := q
    have el : ((ss.map mkS).map (·.length)) = ss.map (·.length) := by
      rw [List.map_map]
      apply List.map_congr_left
      intro s _
      exact mkS_length s
    rcases hy2 with e | e
    · subst e
      obtain ⟨p, vs, ey, h1, rp⟩ := hy.lst r.f
      have evs := strs_vs rp
      subst evs
      refine ⟨mkS a, p, ss.map mkS, hx.str, by rw [ey], .inl (SqL.of h1), ?_, ?_⟩
      · rw [el, List.length_map, mkS_length]; exact hl
      · rw [join_mk]; exact k _ _ (.dat r (.str _) q)
    · subst e
      obtain ⟨p, vs, ey, h1, rp⟩ := hy.tup r.f
      have evs := strs_vs rp
      subst evs
      refine ⟨mkS a, p, ss.map mkS, hx.str, by rw [ey], .inr (SqT.of h1), ?_, ?_⟩
      · rw [el, List.length_map, mkS_length]; exact hl
      · rw [join_mk]; exact k _ _ (.dat r (.str _) q)
  | _ => exact (show False from q).elim
end
section
variable {P : B → Prop} {a : List Nat} {l : List D} {ss : List (List Nat)} {R : Prop}
instance [c : StrsC l ss] [e : Ev (P (.dat (.str (joinD a ss)))) R] : Ev (wJoin (.str a) (.lst l) P) ((ss.map (·.length)).sum + ss.length * a.length ≤ 16777216 ∧ R) := ⟨fun h => ⟨ss, .inl (by rw [c.h]), h.1, e.h h.2⟩⟩
end
/-! ### {k: v}, k a tuple -/
section
variable {X : Cx} {pos : Pos}
theorem key1_of {P : Program} {w : World} {H : Hp} {h : Heap} (ok : HOk P w H h) {b : Addr} {ks : List Key} (e : H b = some (.tup (ks.map kV))) : (tupleKind (mixKind P w)).is h ks b := key_of ok e
theorem vv_one {b : Addr} {z : V} : ∀ {ws : List (Value × Value)}, VV [(V.ref b, z)] ws → ∃ v, ws = [(Value.ref b, v)] ∧ RelV z v
  | [(u, v)], .cons r .nil => ⟨v, by rw [show u = Value.ref b from r.1], r.2⟩
def tDisp1T (trs : List (TE × TE)) : TE := fun σ H Q => ∀ p, H p = none → tPairs trs σ (upd H p (.dT [])) fun ps H2 => H2 p = some (.dT []) ∧ ∃ (b : Addr) (ks : List Key) (z : V), ps = [(.ref b, z)] ∧ H2 b = some (.tup (ks.map kV)) ∧ Q (.ref p) (upd H2 p (.dT [(ks, z)]))
theorem pe_disp1T {keys : List (Option Expr)} {values : List Expr} {trs : List (TE × TE)} (hu : X.A.units + 1 < cLine) (h : PPs X pos keys values trs) (hall : keys.all (·.isSome) = true) (hl : keys.length = values.length) (h0 : keys ≠ [])
    (h15 : keys.length ≤ 15) : PE X (.Dict keys values pos) (tDisp1T trs) := by
  refine ⟨fun pins s σ H Q I q => ?_⟩
  have hn := I.hok.fresh (Nat.le_refl s.heap.objs.size)
  have I1 := I.laid (a := s.heap.objs.size) (o := .dT []) (h' := s.heap.push { cls := .type "dict", data := .dict #[] }) (t' := s.toks) (fun _ _ q => Heap.get?_push_of_some _ q) (Nat.le_refl _) (dt_empty s.heap I.big)
  have hnl := pairTrees_length keys values X.env pos hall hl
  have h0' : pairTrees keys values X.env pos ≠ [] := fun e => by
    rw [e] at hnl; exact h0 (List.length_eq_zero_iff.mp hnl.symm)
  rw [arm_eval_Dict, zip_pairTrees keys values X.env pos hall hl, dictDisplay_pairs _ h0' (by omega)]
  refine wpAny_bind (wpAny_standAt (wpAny_bind (wpAny_subDictH (knd := tupleKind (mixKind X.prog X.w)) (Q := fun d s' => wpAny (model X.prog X.w) X.A (pure (Value.ref d)) _ _ s') ?_ (by omega) (thn (h.run pins _ σ _ _ I1 (q _ hn)) fun ws s2 ⟨ps, H2, I2, rel, e, b, ks, z, ep, eb, q2⟩ => ?_))))
  · show X.A.units < cLine
    omega
  · subst ep
    obtain ⟨v, ew, rz⟩ := vv_one rel
    subst ew
    · obtain ⟨_, hd, xs, rel0, dd⟩ := dt_of I2.hok e
      cases rel0
      refine ⟨[(ks, b, v)], ⟨rfl, rfl, key_of I2.hok eb, trivial⟩, dd, fun h' tk dd' hs => wpAny_pure ⟨.ref s.heap.objs.size, _, ?_, rfl, q2⟩⟩
      obtain ⟨o, es, ep, ho, g2, g3, g4, g5, g6⟩ := dd'
      refine d_write (t' := tk) I2 (by rw [e]; exact True.intro) hs ⟨o, ho⟩ ⟨by show 1 ≤ sizeLine; decide, hd, [(ks, b, v)], .cons ⟨rfl, ?_, rz⟩ .nil, o, es, ep, ho, g2, g3, g4, g6⟩
      rw [upd_ne (ne_of eb e (fun z => nomatch z))]
      exact eb
end
section
variable {X : Cx} {pos : Pos}
def dispTK (ps : List (D × D)) (E1 : En) (Q : B → En → Prop) : Prop := match ps with
  | [(k, v)] => keyOk true k = true ∧ Q (.own (.dct true [(k, v)])) E1
  | _ => False
def wDispT (ws : List (WE × WE)) : WE := fun E Q => wPairs ws E fun ps E1 => dispTK ps E1 Q
theorem ed_dispT {keys : List (Option Expr)} {values : List Expr} {ws : List (WE × WE)} (hu : X.A.units + 1 < cLine) (h : PsD X pos keys values ws) (hall : keys.all (·.isSome) = true) (hl : keys.length = values.length) (h0 : keys ≠ []) (h15 : keys.length ≤ 15) : ED X (.Dict keys values pos) (wDispT ws) :=
  ed_of (pe_disp1T hu h hall hl h0 h15) fun O G F σ H E Q r q p hp => by
    have np := r.f.gone hp
    have op := r.oNone hp
    have r1 := (r.alloc (u := .dT []) hp).hide upd_same np (r.notOwned hp)
    refine pairs_ok r1 q fun vs H1 F1 E1 ds s1 r2 p1 q1 => ?_
    have n1 : F1 p = none := by
      rcases (r2.o p _ upd_same).2 with z | z
      · exact z
      · cases z
    cases p1 with
    | nil => exact (show False from q1).elim
    | cons a b c =>
      cases c with
      | cons _ _ _ => exact (show False from q1).elim
      | nil =>
        rename_i k0 v0 dk dv
        obtain ⟨ok, q1⟩ := (show keyOk true dk = true ∧ Q (.own (.dct true [(dk, dv)])) E1 from q1)
        obtain ⟨key, b2, e1, e2, e3⟩ := a.keyT ok
        subst e1 e2
        have hp1 := (r2.o p _ upd_same).1
        obtain ⟨r3, w3⟩ := r2.unhide (u' := .dT [(key, v0)]) n1 op
        refine ⟨hp1, b2, key, v0, rfl, r2.f.tup e3, F1, E1, .own _, s1, r3, ⟨⟨p, rfl, n1, op, Cell.mkT (.cons b .nil)⟩, fun a ea w => ?_⟩, q1⟩
        cases ea
        exact w3 w
end
section
variable {E : En} {Q : B → En → Prop} {ws : List (WE × WE)} {k v : D} {R : Prop}
instance [e : Ev (wPairs ws E fun ps E1 => dispTK ps E1 Q) R] : Ev (wDispT ws E Q) R := ⟨fun h => e.h h⟩
instance [e : Ev (Q (.own (.dct true [(k, v)])) E) R] : Ev (dispTK [(k, v)] E Q) (keyOk true k = true ∧ R) := ⟨fun h => ⟨h.1, e.h h.2⟩⟩
end
/-! ### x.index(y), two texts -/
theorem occ_stay (s sub : Str) (hi : Nat) : ∀ (l : List Nat) (st : Array Nat × Nat), st.fst.size = 1 → (forIn (m := Id) l st (StrLaws.occBody s sub hi 1)).run.fst = st.fst
  | [], st, h => rfl
  | a :: l, st, h => by
    rw [List.forIn_cons]
    unfold StrLaws.occBody
    rw [if_neg (by omega)]
    exact occ_stay s sub hi l _ h
theorem occ_first (s sub : Str) (hi i : Nat) (post : List Nat) (pi : i + sub.length ≤ hi ∧ Builtin.Str.subAt s sub i = true) : ∀ (pre : List Nat) (free : Nat), (∀ j ∈ pre, ¬ (j + sub.length ≤ hi ∧ Builtin.Str.subAt s sub j = true)) → free ≤ i → (forIn (m := Id) (pre ++ i :: post) ((#[] : Array Nat), free) (StrLaws.occBody s sub hi 1)).run.fst = #[i]
  | [], free, _, hf => by
    rw [List.nil_append, List.forIn_cons]
    unfold StrLaws.occBody
    rw [if_pos ⟨⟨⟨by simp, hf⟩, pi.1⟩, pi.2⟩]
    exact occ_stay s sub hi post _ (by simp)
  | a :: pre, free, h, hf => by
    rw [List.cons_append, List.forIn_cons]
    unfold StrLaws.occBody
    rw [if_neg (fun c => h a List.mem_cons_self ⟨c.1.2, c.2⟩)]
    exact occ_first s sub hi i post pi pre free (fun j hj => h j (List.mem_cons_of_mem _ hj)) hf
theorem occ_index {a b : List Nat} {i : Nat} (h1 : i + b.length ≤ a.length) (h2 : (a.drop i).take b.length = b) (h3 : ∀ j, j < i → (a.drop j).take b.length ≠ b) : Builtin.Str.occurrences (mkS a) (mkS b) 0 (mkS a).length 1 = [i] := by
  rw [StrLaws.occ_eq, mkS_length]
  have hr : List.range' 0 (a.length + 1 - 0) = List.range' 0 i ++ i :: List.range' (i + 1) (a.length - i) := by
    rw [show a.length + 1 - 0 = i + (a.length - i + 1) by omega, ← List.range'_append]
    first | done | simp [List.range'_succ]
  have key : ∀ j, Builtin.Str.subAt (mkS a) (mkS b) j = ((a.drop j).take b.length == b) := fun j => by
    rw [StrLaws.subAt_eq, mkS_length]
  rw [hr, occ_first]
  · refine ⟨by rw [mkS_length]; exact h1, by rw [key]; exact beq_iff_eq.mpr h2⟩
  · intro j hj hc
    rw [key] at hc
    exact h3 j (by simpa using List.mem_range'_1.mp hj) (beq_iff_eq.mp hc.2)
  · exact Nat.zero_le _
def wIndexS (x y : D) (Q : B → Prop) : Prop := match x, y with
  | .str a, .str b => ∃ i, i + b.length ≤ a.length ∧ (a.drop i).take b.length = b ∧ (∀ j, j < i → (a.drop j).take b.length ≠ b) ∧ Q (.dat (.int (i : Nat)))
  | _, _ => False
section
variable {K : PySem.W.Frag}
theorem k_indexS : Op2Ok K (fun x y H Q => ∃ a b i rest, x = .str a ∧ [y] = [.str b] ∧ Builtin.Str.occurrences a b 0 a.length 1 = i :: rest ∧ Q (.int (i : Nat)) H) wIndexS := by
  intro O G F σ H E x y dx dy Q Q' r hx hy q k
  cases dx with
  | str a =>
    cases dy with
    | str b =>
      obtain ⟨i, h1, h2, h3, q⟩ := q
      exact ⟨mkS a, mkS b, i, [], hx.str, by rw [hy.str], occ_index h1 h2 h3, k _ _ (.dat r (.int _) q)⟩
    | _ => exact (show False from q).elim
  | _ => exact (show False from q).elim
end
section
variable {P : B → Prop} {a b : List Nat} {RN : Nat → Prop}
instance [e : ∀ i : Nat, Ev (P (.dat (.int (i : Nat)))) (RN i)] : Ev (wIndexS (.str a) (.str b) P) (∃ i : Nat, i + b.length ≤ a.length ∧ (a.drop i).take b.length = b ∧ (∀ j, j < i → (a.drop j).take b.length ≠ b) ∧ RN i) := ⟨fun ⟨i, h1, h2, h3, h⟩ => ⟨i, h1, h2, h3, (e i).h h⟩⟩
end
section
variable {P : B → Prop} {l : List D} {ns : List Int} {RM : Int → Prop}
instance [c : IntsC l ns] [e : ∀ m, Ev (P (.dat (.int m))) (RM m)] : Ev (wMin (.lst l) P) (0 < ns.length ∧ ∀ m, m ∈ ns → (∀ y, y ∈ ns → m ≤ y) → RM m) := ⟨fun h => ⟨ns, c.h, h.1, fun m h1 h2 => (e m).h (h.2 m h1 h2)⟩⟩
end
theorem ddK_c {f g : D → D} {ds : List D} {vs : List Nat} {E0 E5 : En} {i : Nat} {kb yb : B} {d k y : D} (hi : ds[i]? = some d) (hl : ds.length ≤ 16777216) [dk : DtC kb k] [dy : DtC yb y] [hw : WipeC E5 vs E0] (hk : keyOk false k = true) (hkf : k = f d) (hyg : y = g d) : ddK f g ds vs E0 i kb yb E5 := by
  have h1 := kvD_len f g (ds.take i)
  rw [List.length_take] at h1
  have h2 := (List.getElem?_eq_some_iff.mp hi).1
  refine ⟨by rw [dk.h]; exact hk, by omega, ?_, ?_, hw.h⟩
  · rw [dk.h, dy.h, hkf, hyg]
    unfold kvD
    rw [take_snoc hi, List.foldl_append]; rfl
  · have := putD_len (kvD f g (ds.take i)) kb.d yb.d
    omega
theorem enum_pw {f : D → D} {xs : List D} (h : ∀ i j a b, i < j → xs[i]? = some a → xs[j]? = some b → eqD (f (.tup [.int (i : Nat), a])) (f (.tup [.int (j : Nat), b])) = false) : (enumD xs).Pairwise fun a b => eqD (f a) (f b) = false := by
  rw [List.pairwise_iff_getElem]
  intro i j hi hj hij
  obtain ⟨a, ha, ea⟩ := enumD_get (List.getElem?_eq_getElem hi)
  obtain ⟨b, hb, eb⟩ := enumD_get (List.getElem?_eq_getElem hj)
  rw [ea, eb]
  exact h i j a b hij ha hb
/-! ### str(i), str(s) -/
def rStrG : List V → Hp → VK → Prop := fun xs H Q => (∃ i, xs = [.int i] ∧ i.natAbs.log2 < 1920 ∧ Q (.str (toString i)) H) ∨ ∃ a, xs = [.str a] ∧ Q (.str a) H
section
variable {X : Cx} {K : PySem.W.Frag}
theorem call_strG : CallR X (.type "str") rStrG := by
  intro pins s σ H xs us Q I r h
  rcases h with h | h
  · exact call_str_int pins s σ H xs us Q I r h
  · exact SkE.call_str_str pins s σ H xs us Q I r h
theorem k_str : Op1Ok K (fun x H Q => rStrG [x] H Q) wStr := by
  intro O G F σ H E x dx Q Q' r hx q k
  cases dx with
  | int i =>
    obtain ⟨hl, q⟩ := q
    refine .inl ⟨i, by rw [hx.int], hl, ?_⟩
    have e : (toString i : Str) = mkS (toString i : Str).cps.toList := rfl
    rw [e]
    exact k _ _ (.dat r (.str _) q)
  | str s => exact .inr ⟨mkS s, by rw [hx.str], k _ _ (.dat r (.str s) q)⟩
  | _ => exact (show False from q).elim
end
/-! ### name = {..} on one line, the name a local -/
section
variable {X : Cx}
theorem ps_setDc {i : Nat} {y : Str} {py : Pos} {kx vx tg iter : Expr} {ifs : List Expr} {scope : Scope} {own : List (Str × Nat)} {pos spos : Pos} {wi : TI} {g : TG} {tt : TT} {tk te : TE} (hc : X.calm = true) (hN : X.N.Nodup) (hy : X.N[i]? = some y) (hyl : X.env.scope.names.lookup y = some .local)
    (hsw : swapsWith (.DictComp kx vx [⟨tg, iter, ifs, 0⟩] scope pos) (some (.Name y py)) spos.line X.env = pure true) (hi : PI X tg iter wi) (ok : BlkOk X.N X.env.scope scope own)
    (hg : ∀ (s : Shared) (H : Hp) (C : Addr) (cl : List (Str × Addr)) (fp : List Addr), PG (X.blk s H scope (compEnvC scope cl C X.env) fp) tg g) (ht : ∀ (s : Shared) (H : Hp) (C : Addr) (cl : List (Str × Addr)) (fp : List Addr), PTs (X.blk s H scope (compEnvC scope cl C X.env) fp) ifs tt)
    (hk : ∀ (s : Shared) (H : Hp) (C : Addr) (cl : List (Str × Addr)) (fp : List Addr), PE (X.blk s H scope (compEnvC scope cl C X.env) fp) kx tk)
    (he : ∀ (s : Shared) (H : Hp) (C : Addr) (cl : List (Str × Addr)) (fp : List Addr), PE (X.blk s H scope (compEnvC scope cl C X.env) fp) vx te) (hs : ∀ x, foldedSetIterable iter X.env x = pure x := by intro _; rfl) :
    PS X (.Assign [.Name y py] (.DictComp kx vx [⟨tg, iter, ifs, 0⟩] scope pos) spos) (tAsg (tDc wi g tt tk te (own.map (·.2))) (gName i)) := by
  refine ⟨fun pins s σ H D I h => ?_⟩
  rw [exec_Assign_Name_used _ _ _ _ hsw]
  refine wpAny_bind (wpAny_standAt (wpAny_bind ?_))
  show wpAny _ X.A (do let _ ← comprehension (.DictComp kx vx [⟨tg, iter, ifs, 0⟩] scope pos) scope X.env (firstIterPos [⟨tg, iter, ifs, 0⟩] pos) newDict false (eval iter X.env) (some (assign (.Name y py) X.env))) _ _ s
  have h : tDc wi g tt tk te (own.map (·.2)) σ H (fun x H1 => gName i x σ H1 D.nx) := h
  refine wpAny_bind (thn (dc_core (Qf := fun _ s' => SP X pins D .next s') hc hN I hi ok hg ht hk he hs h fun L C s' m H' I' q hn f => ?_) fun _ s' hq => wpAny_pure (wpAny_pure hq))
  show wpAny _ _ (assign (.Name y py) X.env (.ref L)) _ _ _
  refine wpAny_assign_Name (store_ok2 (v := V.ref L) I' hN hy (.inl hyl) rfl (fun s2 I2 ⟨a, sb, ha⟩ => ?_) (.inr hyl))
  obtain ⟨f0, f1, f2, f3, f4, f5⟩ := f
  have haC : C ≠ a := by
    rcases ha with z | z
    · rw [z]; exact f1
    · exact fun e => f4 y a z e.symm
  refine ⟨m, hn.sameBut sb haC, fun h3 sb3 => ?_⟩
  exact ⟨_, H', I2.turned (t' := s2.toks) (fun b o hb e => (sb3.2 b hb).trans e) f0 f1 f3 f4 f5, q⟩
theorem sw_trueD {kx vx : Expr} {gs : List Comprehension} {scope : Scope} {pos py : Pos} {y : Str} {l : Nat} {env : Env} (hk : env.scope.kind = .function) (hy : env.scope.names.lookup y = some .local) (hl : (py.line == pos.line) = true)
    (ha : (scope.names.any fun (n, k) => n == y && (k == .local || k == .cell)) = false) : swapsWith (.DictComp kx vx gs scope pos) (some (.Name y py)) l env = pure true := by
  have ky : env.kindOf y = some .local := hy
  have hb : env.blockKind = .function := by unfold Env.blockKind; rw [hk]; rfl
  unfold swapsWith
  simp only [hb, ky, ha, Expr.pos, hl]
  rfl
theorem sd_setDc {i : Nat} {y : Str} {py : Pos} {kx vx tg iter : Expr} {ifs : List Expr} {scope : Scope} {own : List (Str × Nat)} {pos spos : Pos} {wi : WI} {wg : WG} {wt : WT} {wk we : WE} {vs : List Nat} (hc : X.calm = true) (hN : X.N.Nodup) (hvs : own.map (·.2) = vs) (hy : X.N[i]? = some y) (hyl : X.env.scope.names.lookup y = some .local)
    (hsw : swapsWith (.DictComp kx vx [⟨tg, iter, ifs, 0⟩] scope pos) (some (.Name y py)) spos.line X.env = pure true) (hi : ID X tg iter wi) (ok : BlkOk X.N X.env.scope scope own)
    (hg : ∀ (s : Shared) (H : Hp) (C : Addr) (cl : List (Str × Addr)) (fp : List Addr), GvD (X.blk s H scope (compEnvC scope cl C X.env) fp) vs tg wg) (ht : ∀ (s : Shared) (H : Hp) (C : Addr) (cl : List (Str × Addr)) (fp : List Addr), TsD (X.blk s H scope (compEnvC scope cl C X.env) fp) ifs wt)
    (hk : ∀ (s : Shared) (H : Hp) (C : Addr) (cl : List (Str × Addr)) (fp : List Addr), ED (X.blk s H scope (compEnvC scope cl C X.env) fp) kx wk)
    (he : ∀ (s : Shared) (H : Hp) (C : Addr) (cl : List (Str × Addr)) (fp : List Addr), ED (X.blk s H scope (compEnvC scope cl C X.env) fp) vx we) (hs : ∀ x, foldedSetIterable iter X.env x = pure x := by intro _; rfl) :
    SD X (.Assign [.Name y py] (.DictComp kx vx [⟨tg, iter, ifs, 0⟩] scope pos) spos) (sSet i (wDc wi wg wt wk we vs)) := by
  subst hvs
  refine sd_of (ps_setDc (g := tGv X.K (own.map (·.2)) wg) (tt := tT X.K wt) (tk := tE X.K wk) (te := tE X.K we) hc hN hy hyl hsw hi ok hg ht hk he hs) fun O G F σ H E D D' en r h => ?_
  exact ok_dcK r h fun v H' F' E' b s r' p q => en.nx _ _ _ _ (r'.set i p) q
end
end PW

set_option Elab.async false
set_option linter.all false
set_option autoImplicit false
set_option maxRecDepth 100000
set_option maxHeartbeats 4000000
set_option synthInstance.maxHeartbeats 2000000
set_option synthInstance.maxSize 1000000
namespace PW
open PySem PySem.Spec PyProof.Rows L2

/-! ### set(text) -/
abbrev oneS (c : Nat) : Str := ⟨#[c]⟩
section
variable {P : Program} {w : World} {A : Around} {s : Shared} {E : Value → Shared → Prop}
theorem sub_str_set : isSubtype (.type "str") (.type "set") = pure false := by rw [isSubtype_type]; kernel_rfl
theorem sub_str_frozenset : isSubtype (.type "str") (.type "frozenset") = pure false := by rw [isSubtype_type]; kernel_rfl
set_option maxHeartbeats 8000000 in
theorem setX_str {x : Str} {t : Tok} {Q : Value → Shared → Prop} (hh : A.handled = none) (hb : x.cps.size + 1 < scanBound)
    (hq : ∀ (h' : Heap) (tk : Nat), GotX w h' s.heap.objs.size (x.cps.toList.map oneS) → (∀ b o, b < s.heap.objs.size → s.heap.get? b = some o → h'.get? b = some o) → Q (.ref s.heap.objs.size) { s with heap := h', toks := tk }) :
    wpAny (model P w) A (call (.type "set") [.str x t]) Q E s := by
  obtain ⟨cm, tl, hmro⟩ := PySem.F.called_set.mro
  have hmade := PySem.F.called_set.made; have hsub := PySem.F.called_set.sub
  refine wpAny_call (codeAny_of_tree (?_ : wpAny _ _ (callAny (.type "set") _) _ _ _))
  refine wpAny_pure ⟨Code.quiet_builtin _ (by decide +kernel), codeAny_builtin PySem.F.entry_type_call ?_⟩
  rw [Around.under_plain (weight_type_call_type "set" [.str x t] []) rfl]
  have h1 := PySem.F.called_set.notType; have h2 := PySem.F.called_set.canCreate; have hct := PySem.F.typeCall_set_1 (.str x t)
  repeat (any_goals (first | assumption | wp_step))
  refine codeAny_mono (code_setX (.str x t) (E := E) (Q₁ := fun obj s₁ => obj = .ref s.heap.objs.size ∧ s₁ = { s with heap := s.heap.push (freshX w) }) ⟨rfl, rfl⟩) fun r s₁ hr => ?_
  cases r with
  | error e => exact hr
  | ok fl =>
    cases fl with
    | ret obj =>
      obtain ⟨rfl, rfl⟩ := hr
      have hS : (s.heap.push (freshX w)).get? s.heap.objs.size = some (freshX w) := Heap.get?_push_size _ rfl
      have hT : Shared.TypeIs { s with heap := s.heap.push (freshX w) } (.ref s.heap.objs.size) "set" := ⟨_, hS, rfl⟩
      have hli := PySem.F.called_set.init.lookup; have hbi := PySem.F.called_set.init.bind (.ref s.heap.objs.size)
      repeat (any_goals (first | assumption | wp_step))
      refine codeAny_mono (codeAny_call_builtin (R := wants (fun r s₂ => r = .none ∧ ∃ h' tk, s₂ = { s with heap := h', toks := tk } ∧ GotX w h' s.heap.objs.size (x.cps.toList.map oneS) ∧ (∀ b o, b < s.heap.objs.size → s.heap.get? b = some o → h'.get? b = some o)) E)
        PySem.F.called_set.init.plain PySem.F.entry_set_init (check_set_init_1 hT ?_)) fun r₂ s₂ hr₂ => ?_
      · have hsls := sub_str_set; have hslf := sub_str_frozenset
        have hne : (Value.type "str" == Value.type "dict") = false := by decide
        unfold Builtin.«set.__init__» noKeywords Builtin.Frozenset.updateFrom
        generalize hPI : pyIter = PI
        wp_walk
        subst hPI
        refine wpAny_pyIter_str fun o St W hst => wpAny_bind (wpAny_runValue ?_)
        have hz : (s.heap.push (freshX w)).objs.size = s.heap.objs.size + 1 := Heap.size_push _ _
        have hh3 : A.in1.in1.in1.handled = none := by simp [hh]
        refine setX_loop (a := s.heap.objs.size) (n := x.cps.size) ((W A.in1.in1.in1 (by simp [hh])).toS) (by rw [hz]; simp) (x.cps.toList.map oneS) (by simp)
          (fun i v hv => ?_) (by omega) (x.cps.size - 0) 0 { s with heap := (s.heap.push (freshX w)).push o } (by omega) (Nat.zero_le _) hst ?hS0 ?hR
        case hS0 =>
          obtain ⟨ks, k1, k2, k3, k4⟩ := setX_fresh (w := w) (h := s.heap)
          exact ⟨ks, k1, k2, k3, k4.at fun o e => Heap.get?_push_of_some _ e⟩
        case hR =>
          intro s' hm hS'
          obtain ⟨h', g', d', tk', os'⟩ := s'
          have eg : g' = s.gens := hm.gens
          have ed : d' = s.drawn := hm.drawn
          have eo : os' = s.os := hm.os
          subst eg; subst ed; subst eo
          show wpAny _ _ _ _ _ _
          refine wpAny_pure (?_ : wpAny _ _ (ret Value.none) _ _ _)
          refine wpAny_pure ⟨rfl, h', tk', rfl, hS', fun b o hb e => hm.heap b o ?_ (Heap.get?_push_of_some _ (Heap.get?_push_of_some _ e))⟩
          rw [hz]; simp only [List.mem_cons, List.not_mem_nil, or_false, not_or]; exact ⟨Nat.ne_of_lt hb, Nat.ne_of_lt (Nat.lt_succ_of_lt hb)⟩
        · obtain ⟨c, u, hc, rfl⟩ := hv
          refine ⟨u, ?_⟩
          have : (x.cps.toList.map oneS).getD i Str.empty = oneS c := by
            rw [List.getD_eq_getElem?_getD, List.getElem?_map, Array.getElem?_toList, hc]; rfl
          rw [this]
      · cases r₂ with
        | error e => exact hr₂
        | ok fl₂ =>
          cases fl₂ with
          | ret r =>
            obtain ⟨rfl, h', tk, rfl, hS', hk'⟩ := hr₂
            repeat (any_goals (first | assumption | wp_step))
            exact hq _ _ hS' hk'
          | _ => exact hr₂.elim
    | _ => exact hr.elim
end
end PW

set_option Elab.async false
set_option linter.all false
set_option autoImplicit false
set_option maxRecDepth 100000
set_option maxHeartbeats 4000000
set_option synthInstance.maxHeartbeats 2000000
set_option synthInstance.maxSize 1000000
namespace PW
open PySem PySem.Spec PyProof.Rows L2
/-! ### list(text) -/
section
variable {prog : Program} {w : World} {A : Around} {s : Shared} {R : Result → Shared → Prop} {E : Value → Shared → Prop}
theorem extend_str (S : Addr) (x : Str) (t : Tok) (res : Value) (c₀ : Nat) (hh : A.handled = none)
    (hS : s.heap.get? S = some { cls := .type "list", data := .seq #[] c₀ })
    (hR : ∀ s' acc' c', (∀ b o, b ≠ S → s.heap.get? b = some o → s'.heap.get? b = some o) → s'.gens = s.gens → s'.drawn = s.drawn → s'.os = s.os →
      s'.heap.get? S = some { cls := .type "list", dict := none, data := .seq acc' c', slots := #[] } → ItemsOf (SignAt x) acc' x.cps.size → R (.ok (.ret res)) s') (hn : x.cps.size ≤ sizeLine) :
    wpAny (model prog w) A.in1 (Builtin.List.listExtendWith (.ref S) (.str x t) res)
      (fun fin s' => match fin with | .done f => R (.ok f) s' | .again c' => c'.quiet = true ∧ codeAny (model prog w) A c' R s') (fun e s' => R (.error e) s') s := by
  unfold Builtin.List.listExtendWith
  refine wpAny_bind (wpAny_typeOf (T := "str") (v := .str x t) rfl ?_)
  have h1 : Builtin.List.listSameRef (.ref S) (.str x t) = false := rfl
  have h2 : (Value.type "str" == Value.type "list") = false := by decide
  have h3 : (Value.type "str" == Value.type "tuple") = false := by decide
  simp only [h1, h2, h3, Bool.or_false, Bool.false_eq_true, if_false]
  refine wpAny_bind (wpAny_pyIter_str fun o St W hst => ?_)
  refine wpAny_bind (wpAny_holding ?_)
  unfold Builtin.List.listLengthHint
  refine wpAny_bind (wpAny_specialOf (T := "str") (v := .str x t) rfl PySem.F.str_len ?_)
  wp_delta
  refine wpAny_bind (wpAny_isInstance (T := "str") (v := .str x t) (b := true) rfl (by rw [isSubtype_type]; kernel_rfl) ?_)
  show wpAny _ A.in1 (typeOf (Value.str x t) >>= _) _ _ _
  refine wpAny_bind (wpAny_typeOf (T := "str") (v := .str x t) rfl ?_)
  refine wpAny_pure ?_
  rw [if_neg (by decide)]
  have hlt : S < s.heap.objs.size := Heap.lt_size hS
  have hSf : S ∉ [s.heap.objs.size] := fun hm => by rw [List.mem_singleton.mp hm] at hlt; exact absurd hlt (Nat.lt_irrefl _)
  have hS2 : (s.heap.push o).get? S = some { cls := .type "list", data := .seq #[] c₀ } := Heap.get?_push_of_some _ hS
  refine wpAny_pure ⟨plainId_quiet PySem.F.plain_extend_loop _, codeAny_extend_loopS (W A.in1 hh).toS hn _ hSf _ x.cps.size 0 _ _ _ rfl (Nat.zero_le _) hst hS2 (ItemsOf.nil _) fun s' acc' c' hm hS' hacc => ?_⟩
  refine hR s' acc' c' (fun b ob hb e => hm.heap b ob (fun hbm => ?_) (Heap.get?_push_of_some _ e)) hm.gens hm.drawn hm.os hS' hacc
  have hl2 := Heap.lt_size e
  rcases List.mem_cons.mp hbm with h | h
  · exact hb h
  · rw [List.mem_singleton.mp h] at hl2; exact absurd hl2 (Nat.lt_irrefl _)
theorem list_init_str (S : Addr) (x : Str) (t : Tok) (hh : A.handled = none)
    (hS : s.heap.get? S = some { cls := .type "list", data := .seq #[] })
    (hR : ∀ s' acc' c', (∀ b o, b ≠ S → s.heap.get? b = some o → s'.heap.get? b = some o) → s'.gens = s.gens → s'.drawn = s.drawn → s'.os = s.os →
      s'.heap.get? S = some { cls := .type "list", dict := none, data := .seq acc' c', slots := #[] } → ItemsOf (SignAt x) acc' x.cps.size → R (.ok (.ret .none)) s') (hn : x.cps.size ≤ sizeLine) :
    wpAny (model prog w) A.in1 (Builtin.«list.__init__» ⟨[.ref S, .str x t], []⟩)
      (fun fin s' => match fin with | .done f => R (.ok f) s' | .again c' => c'.quiet = true ∧ codeAny (model prog w) A c' R s') (fun e s' => R (.error e) s') s := by
  show wpAny _ A.in1 (do let old ← Builtin.List.listItems (.ref S); Builtin.List.listUpdate (.ref S) (fun _ => #[]); letGo old.toList.reverse; Builtin.List.listExtendWith (.ref S) (.str x t) .none) _ _ s
  refine wpAny_bind ?_
  unfold Builtin.List.listItems
  refine wpAny_bind (wpAny_seqItems hS rfl (wpAny_pure ?_))
  show wpAny _ A.in1 (updateSeq S (fun _ => #[]) >>= fun _ => letGo (#[] : Array Value).toList.reverse >>= fun _ => Builtin.List.listExtendWith (.ref S) (.str x t) .none) _ _ s
  refine wpAny_bind (wpAny_updateSeq hS rfl ?_)
  have hS₂ := Heap.get?_update_self (Obj.mapSeq (fun _ => (#[] : Array Value))) hS rfl
  have oth : ∀ b o, b ≠ S → s.heap.get? b = some o → (s.heap.update S (Obj.mapSeq (fun _ => (#[] : Array Value)))).get? b = some o :=
    fun b o hb e => (Heap.get?_update_other _ _ (Ne.symm hb)).trans e
  refine wpAny_bind (wpAny_letGo ?_)
  exact extend_str S x t .none _ hh hS₂ (fun s' acc' c' k g d o hS' ha => hR s' acc' c' (fun b o hb e => k b o hb (oth b o hb e)) g d o hS' ha) hn
theorem call_list_str {x : Str} {t : Tok} {Q : Value → Shared → Prop} (hh : A.handled = none)
    (hQ : ∀ s' acc' c', (∀ b o, s.heap.get? b = some o → s'.heap.get? b = some o) → s'.gens = s.gens → s'.drawn = s.drawn → s'.os = s.os →
      s'.heap.get? s.heap.objs.size = some { cls := .type "list", dict := none, data := .seq acc' c', slots := #[] } → ItemsOf (SignAt x) acc' x.cps.size → Q (.ref s.heap.objs.size) s') (hn : x.cps.size ≤ sizeLine) :
    wpAny (model prog w) A (call (.type "list") [.str x t]) Q E s := by
  refine callType_codes (Q₁ := fun obj s₁ => obj = .ref s.heap.objs.size ∧ s₁ = { s with heap := s.heap.push { cls := .type "list", data := .seq #[] } }) PySem.F.called_list (PySem.F.typeCall_list_1 _) PySem.F.entry_list_init
    (code_list_new _ ⟨rfl, rfl⟩) fun obj s₁ h₁ => ?_
  obtain ⟨rfl, rfl⟩ := h₁
  have hS : (s.heap.push { cls := .type "list", data := .seq #[] }).get? s.heap.objs.size = some { cls := .type "list", data := .seq #[] } := Heap.get?_push_size _ rfl
  refine ⟨⟨_, hS, rfl⟩, PySem.F.args_list_init_2 _ _, list_init_str _ x t (by simp [hh]) hS (fun s' acc' c' k g d o hS' ha => ⟨rfl, hQ s' acc' c' (fun b u e => k b u (fun z => ?_) (Heap.get?_push_of_some _ e)) g d o hS' ha⟩) hn⟩
  exact Nat.lt_irrefl _ (z ▸ Heap.lt_size e)
end
/-- the signs of a text, each a text -/
def sgs (s : List Nat) : List D := s.map fun c => D.str [c]
def wListS (x : D) (Q : B → Prop) : Prop := match x with
  | .str s => s.length ≤ 16777216 ∧ Q (.own (.lst (sgs s)))
  | _ => False
section
variable {X : Cx} {K : PySem.W.Frag}
def rListS : List V → Hp → VK → Prop := fun xs H Q => ∃ x : Str, xs = [.str x] ∧ x.cps.size ≤ 16777216 ∧ ∀ l, H l = none → Q (.ref l) (upd H l (.lst ((x.cps.toList.map oneS).map V.str)))
theorem items_vals {x : Str} : ∀ {acc : Array Value}, ItemsOf (SignAt x) acc x.cps.size → Vals ((x.cps.toList.map oneS).map V.str) acc.toList := fun {acc} h => by
  obtain ⟨h1, h2⟩ := h
  have gen : ∀ (cs : List Nat) (vs : List Value), cs.length = vs.length → (∀ (i : Nat) (v : Value), vs[i]? = some v → ∃ c u, cs[i]? = some c ∧ v = .str ⟨#[c]⟩ u) → Vals ((cs.map oneS).map V.str) vs := by
    intro cs
    induction cs with
    | nil =>
      intro vs hl _
      cases vs with
      | nil => exact .nil
      | cons a l => cases hl
    | cons c cs ih =>
      intro vs hl hv
      cases vs with
      | nil => cases hl
      | cons v vs =>
        obtain ⟨c', u, e, rfl⟩ := hv 0 v rfl
        cases e
        exact .cons ⟨u, rfl⟩ (ih vs (Nat.succ.inj hl) fun i w hw => hv (i + 1) w hw)
  refine gen _ _ (by simpa using h1.symm) fun i v hv => ?_
  have hi := (List.getElem?_eq_some_iff.mp hv).1
  rw [Array.getElem?_toList] at hv
  obtain ⟨c, u, hc, e⟩ := h2 i v hv
  exact ⟨c, u, by rw [Array.getElem?_toList]; exact hc, e⟩
theorem cr_listS (hc : X.calm = true) : CallR X (.type "list") rListS := by
  intro pins s σ H xs us Q I r h
  obtain ⟨x, rfl, hx, q⟩ := h
  obtain ⟨u, rfl, t, rfl⟩ := vals1 r
  refine call_list_str (I.ok.hd hc) (fun s' acc' c' k g d o hS' ha => ?_) (by rw [line_eq]; exact hx)
  have hv := items_vals ha
  have hlen := hv.length
  obtain ⟨h', g', d', tk', os'⟩ := s'
  subst g; subst d; subst o
  have hsz : acc'.toList.length ≤ sizeLine := by rw [← hlen, List.length_map, List.length_map, line_eq]; simpa using hx
  exact ⟨.ref s.heap.objs.size, _, I.laid (t' := tk') k (Nat.le_refl _) (show ObjOk X.prog X.w _ h' _ (.lst _) from ⟨by rw [hlen]; exact hsz, acc'.toList, c', hv, hS'⟩), rfl, q _ (I.hok.fresh (Nat.le_refl _))⟩
theorem k_listS : Op1Ok K (fun x H Q => rListS [x] H Q) wListS := by
  intro O G F σ H E x dx Q Q' r hx q k
  cases dx with
  | str l =>
    have e := hx.str
    subst e
    refine ⟨mkS l, rfl, by simpa using q.1, fun c hc => k _ _ (.lst r hc (ds := sgs l) ?_ q.2)⟩
    show RepL K F ((l.toArray.toList.map oneS).map V.str) _
    have : ∀ l : List Nat, RepL K F ((l.map oneS).map V.str) (sgs l) := fun l => by
      induction l with
      | nil => exact .nil
      | cons a l ih => exact .cons (.str [a]) ih
    exact this l
  | _ => exact (show False from q).elim
end
section
variable {P : B → Prop} {R : Prop} {s : List Nat}
instance [e : Ev (P (.own (.lst (sgs s)))) R] : Ev (wListS (.str s) P) (s.length ≤ 16777216 ∧ R) := ⟨fun h => ⟨h.1, e.h h.2⟩⟩
end
/-! ### sorted(set(text)) -/
def wSortSetS (x : D) (Q : B → Prop) : Prop := match x with
  | .str s => s.length < 4000 ∧ ∀ m, SetSort (sgs s) m → m.length ≤ s.length → Q (.own (.lst m))
  | _ => False
def rSetSortS (K : PySem.W.Frag) : V → Hp → VK → Prop := fun y H Q => ∃ x : Str, y = V.str x ∧ x.cps.size < 4000 ∧
  ∀ (p : Addr) (bs : List Str), H p = none → bs.Nodup → (∀ k, k ∈ bs ↔ k ∈ x.cps.toList.map oneS) → bs.Pairwise (fun x y => leT x y = true) → bs.length < scanBound → Q (.ref p) (upd H p (.lst (bs.map V.str)))
def tSortSetS (K : PySem.W.Frag) (ta : TE) : TE := fun σ H Q => ta σ H fun x H1 => rSetSortS K x H1 Q
section
variable {X : Cx}
theorem pe_sortSetS {a : Expr} {ta : TE} {p p2 q pos : Pos} (hc : X.calm = true) (hu : X.A.units + 70 < cLine) (hg : Gl X "sorted") (hm : X.mg "sorted" = none) (hb : bootBuiltins "sorted" = some (.builtin "sorted")) (hg2 : Gl X "set") (hm2 : X.mg "set" = none) (hb2 : bootBuiltins "set" = some (.type "set")) (ha : PE X a ta)
    (na : starEach [a] X.env = (false, eval a X.env) :: starEach [] X.env := by rfl) : PE X (.Call (.Name "sorted" p) [.Call (.Name "set" p2) [a] [] q] [] pos) (tSortSetS X.K ta) := by
  refine ⟨fun pins s σ H Q I h => ?_⟩
  refine Call_ (ld_blt I hg hm hb (PyProof.Rows.callWith_builtin1 (PyProof.Rows.args_cons ?_ rfl) rfl rfl))
  refine Call_ (ld_blt I hg2 hm2 hb2 (PyProof.Rows.callWith_type1 (PyProof.Rows.args_cons (thn (ha.run pins s σ H _ I h) fun v s1 ⟨x, H1, I1, r1, q1⟩ => PyProof.Rows.args_nil ?_) na) na rfl))
  obtain ⟨x, rfl, hz, q1⟩ := q1
  obtain ⟨t, rfl⟩ := r1
  refine setX_str (P := X.prog) (w := X.w) (x := x) (I1.ok.hd hc) (by unfold scanBound; omega) fun h' tk G hk => PyProof.Rows.args_nil ?_
  have I2 : Inv X pins σ H1 { s1 with heap := h', toks := tk } := I1.kept fun b o e => hk b o (Heap.lt_size e) e
  have G2 : GotX X.w ({ s1 with heap := h', toks := tk } : Shared).heap s1.heap.objs.size (x.cps.toList.map oneS) := G
  generalize ({ s1 with heap := h', toks := tk } : Shared) = s2 at I2 G2 ⊢
  refine sortX (s := s2) G2 (I1.ok.hd hc) (by omega) fun s' p out c bs k g o hp hg he nd mem pw hlt => ?_
  have hn : H1 p = none := I2.hok.fresh hp
  have hlen : (bs.map V.str).length ≤ sizeLine := by rw [List.length_map, sizeLine_eq]; unfold scanBound at hlt; omega
  have J : Inv X pins σ (upd H1 p (.lst (bs.map V.str))) { s2 with heap := s'.heap, gens := s'.gens, drawn := s'.drawn, toks := s'.toks } :=
    I2.call (ch := []) (Un.laid k hp hn) (I2.hok.laid k hp ⟨hlen, out.toList, c, isTx_vals he, hg⟩) (by rw [g]; exact I2.bare) (fun _ z => nomatch z)
  have e : s' = { s2 with heap := s'.heap, gens := s'.gens, drawn := s'.drawn, toks := s'.toks } := by
    obtain ⟨a1, a2, a3, a4, a5⟩ := s'; cases o; rfl
  rw [e]
  exact ⟨.ref p, _, J, rfl, q1 p bs hn nd mem pw hlt⟩
end
section
variable {K : PySem.W.Frag}
theorem unS_one (c : Nat) : unS (oneS c) = .str [c] := rfl
theorem k_sortSetS : Op1Ok K (rSetSortS K) wSortSetS := by
  intro O G F σ H E x dx Q Q' r hx q k
  cases dx with
  | str l =>
    obtain ⟨l4, q⟩ := q
    have e := hx.str
    subst e
    have e2 : sgs l = (((mkS l).cps.toList).map oneS).map unS := by
      show sgs l = (l.toArray.toList.map oneS).map unS
      unfold sgs
      rw [List.map_map]; rfl
    refine ⟨mkS l, rfl, by simpa using l4, fun c bs hc nd mem pw hlt => ?_⟩
    refine k _ _ (.lst r hc (ds := bs.map unS) (unS_repl bs) (q _ ⟨?_, ?_, ?_⟩ ?_))
    · exact List.Pairwise.map _ (fun a b hne e => hne (unS_inj e)) nd
    · intro d
      rw [e2, List.mem_map, List.mem_map]
      exact ⟨fun ⟨y, hy, e⟩ => ⟨y, (mem y).mp hy, e⟩, fun ⟨y, hy, e⟩ => ⟨y, (mem y).mpr hy, e⟩⟩
    · exact List.Pairwise.map _ (fun a b h => by rw [leD_unS]; exact h) pw
    · rw [List.length_map]
      have := nodup_len nd fun y hy => (mem y).mp hy
      simpa using this
  | _ => exact (show False from q).elim
end
section
variable {X : Cx}
theorem ed_sortSetS {a : Expr} {wo : WO} {p p2 q pos : Pos} (hc : X.calm = true) (hu : X.A.units + 70 < cLine) (hg : Gl X "sorted") (hm : X.mg "sorted" = none) (hb : bootBuiltins "sorted" = some (.builtin "sorted")) (hg2 : Gl X "set") (hm2 : X.mg "set" = none) (hb2 : bootBuiltins "set" = some (.type "set")) (ha : OD X a wo)
    (na : starEach [a] X.env = (false, eval a X.env) :: starEach [] X.env := by rfl) : ED X (.Call (.Name "sorted" p) [.Call (.Name "set" p2) [a] [] q] [] pos) (wUn wSortSetS wo) :=
  ed_of (pe_sortSetS hc hu hg hm hb hg2 hm2 hb2 ha na) (ok_un k_sortSetS)
end
section
variable {P : B → Prop} {s : List Nat} {RM : List D → Prop}
instance [e : ∀ m, Ev (P (.own (.lst m))) (RM m)] : Ev (wSortSetS (.str s) P) (s.length < 4000 ∧ ∀ m, SetSort (sgs s) m → m.length ≤ s.length → RM m) := ⟨fun h => ⟨h.1, fun m hm hl => (e m).h (h.2 m hm hl)⟩⟩
end
theorem sgs_strs (s : List Nat) : sgs s = (s.map fun c => [c]).map D.str := by unfold sgs; rw [List.map_map]; rfl
/-! ### enumerate(text) -/
def ItE (x : Str) : It :=
  ⟨fun i _ => i < x.cps.size, fun i H v H' => ∃ T c, v = .ref T ∧ H T = none ∧ H' = upd H T (.tup [.int (i : Nat), .str (oneS c)]) ∧ x.cps[i]? = some c, fun i _ => i = x.cps.size⟩
theorem draws_str {prog : Program} {w : World} {A : Around} (hh : A.handled = none) (it : Addr) (x : Str) (t : Tok) (ty : String) (hty : ty = "str_ascii_iterator" ∨ ty = "str_iterator") :
    Draws prog w A it [it] x.cps.size (fun i v => ∃ c u, x.cps[i]? = some c ∧ v = .str ⟨#[c]⟩ u) (fun i h => h.IsStrIter it ty x t i) := by
  rcases hty with e | e
  · rw [e]; exact Draws.strAscii hh it x t
  · rw [e]; exact Draws.strWide hh it x t
theorem turn_enumS {P : Program} {w : World} {K : PySem.W.Frag} {elts : List Expr} {kk : Nat} {tpos : Pos} (x : Str) (t : Tok) (ty : String) (hty : ty = "str_ascii_iterator" ∨ ty = "str_iterator") (e it : Addr) :
    Turn P w K (.Tuple elts kk tpos) (ItE x) [e, it] e (fun i h => (∃ old, IsEnum h e it ((i : Nat) : Int) old) ∧ h.IsStrIter it ty x t i ∧ e ≠ it) where
  mem := by simp
  obj := fun i h st b hb => by
    obtain ⟨⟨old, he⟩, ⟨o, ho, hc, hd⟩, _⟩ := st
    have e' : b = e ∨ b = it := by simpa using hb
    rcases e' with z | z
    · rw [z]; exact ⟨_, he, fun v q => nomatch q⟩
    · rw [z]; exact ⟨o, ho, fun v q => by rw [hd] at q; cases q⟩
  keep := fun i h h' st k => let ⟨⟨old, he⟩, ⟨o, ho, r⟩, hne⟩ := st; ⟨⟨old, k e (by simp) _ he⟩, ⟨o, k it (by simp) o ho, r⟩, hne⟩
  item := by
    intro X hP hw hK hc i pins s σ H E I hf st hg
    subst hP hw hK
    obtain ⟨⟨old, he⟩, hit, hne⟩ := st
    have D := draws_str (prog := X.prog) (w := X.w) (A := X.A.in1) (by simp [I.ok.hd hc]) it x t ty hty
    have hel : e < s.heap.objs.size := Heap.lt_size he
    have hil : it < s.heap.objs.size := by obtain ⟨_, q, _⟩ := hit; exact Heap.lt_size q
    refine wpAny_pyNext_enum_itemD D he hit hg hne (by simpa using hne) fun u h' tk hP ho hit' hT hsz hk => ?_
    obtain ⟨c, u', hcx, rfl⟩ := hP
    refine ⟨_, rfl, wpAny_letOwnedTupleGo_enum (s := { s with heap := h', toks := tk + 1 }) ho fun h'' he' sb => ?_⟩
    have hT2 : h''.get? s.heap.objs.size = some { cls := .type "tuple", data := .seq #[.int i tk, .str (oneS c) u'] } := (sb.2 _ (Nat.ne_of_gt hel)).trans hT
    have new : ObjOk X.prog X.w (upd H s.heap.objs.size (.tup [.int (i : Nat), .str (oneS c)])) h'' s.heap.objs.size (.tup [.int (i : Nat), .str (oneS c)]) :=
      ⟨by show 2 ≤ sizeLine; decide, [.int i tk, .str (oneS c) u'], .cons ⟨_, rfl⟩ (.cons ⟨_, rfl⟩ .nil), ⟨_, hT2, rfl, _, rfl⟩⟩
    have I1 : Inv X pins σ (upd H s.heap.objs.size (.tup [.int (i : Nat), .str (oneS c)])) { s with heap := h'', toks := tk + 1 } :=
      I.turnedNew (ch := [e, it]) (fun b ob hb q => (sb.2 b (fun z => hb (by simp [z]))).trans (hk b ob (fun z => hb (by simp [z])) (fun z => hb (by simp [z])) q)) hf (Nat.le_refl _) new
    refine ⟨.ref s.heap.objs.size, _, I1, rfl, ⟨_, c, rfl, I.hok.fresh (Nat.le_refl _), rfl, hcx⟩, ⟨⟨.str (oneS c) u', ?_⟩, ?_, hne⟩, fun b hb => ?_⟩
    · have e1 : ((i + 1 : Nat) : Int) = (i : Int) + 1 := by omega
      rw [e1]; exact he'
    · obtain ⟨o, q, r⟩ := hit'
      exact ⟨o, (sb.2 it (Ne.symm hne)).trans q, r⟩
    · have hb' : b < s.heap.objs.size := by
        have e' : b = e ∨ b = it := by simpa using hb
        rcases e' with z | z
        · rw [z]; exact hel
        · rw [z]; exact hil
      rw [upd_ne (Nat.ne_of_lt hb')]
      exact (hf b hb).1
  done := by
    intro X hP hw hK hc i pins s σ H E I hf st hg
    subst hP hw hK
    obtain ⟨⟨old, he⟩, hit, hne⟩ := st
    have D := draws_str (prog := X.prog) (w := X.w) (A := X.A.in1) (by simp [I.ok.hd hc]) it x t ty hty
    obtain ⟨f0, f1, f2, f3, f4, f5⟩ := hf it (by simp)
    have hi : i = x.cps.size := hg
    subst hi
    exact wpAny_pyNext_enum_endD D he hit fun h' eb => ⟨rfl, I.turned (t' := s.toks) (fun b o hb q => eb b o (by simpa using hb) q) f0 f1 f3 f4 f5⟩
  self := fun A i s Q E st h => let ⟨⟨_, he⟩, _⟩ := st; wpAny_pyIter_enum he h
section
variable {X : Cx} {e : Expr} {te : TE} {p pos tpos : Pos} {elts : List Expr} {kk : Nat}
def iEnumS (ta : TA) : TI := fun σ H R => ta σ H fun vs H1 => ∃ x, vs = [V.str x] ∧ R (ItE x) H1
theorem pi_enumS {ta : TA} (hg : Gl X "enumerate") (hm : X.mg "enumerate" = none) (ha : PA X [e] ta) (hs : starEach [e] X.env = [(false, eval e X.env)] := by rfl) :
    PI X (.Tuple elts kk tpos) (.Call (.Name "enumerate" p) [e] [] pos) (iEnumS ta) := by
  refine ⟨fun pins s σ H R I h => ?_⟩
  refine Call_ (ld_blt I hg hm boot_enumerate (PyProof.Rows.callWith_type1 (thn (ha.run pos pins s σ H _ I h) fun us s1 ⟨vs, H1, I1, r1, q1⟩ => ?_) hs rfl))
  obtain ⟨x, ex, q⟩ := q1
  subst ex
  cases r1 with
  | cons r rr =>
    cases rr
    obtain ⟨t, rfl⟩ := r
    refine call_enumerate_str fun h' he hit hsz hk => wpAny_pyIter_enum he ?_
    have I2 : Inv X pins σ H1 { s1 with heap := h' } := I1.kept (t' := s1.toks) hk
    have hty : strIterType x = "str_ascii_iterator" ∨ strIterType x = "str_iterator" := by unfold strIterType; split <;> simp
    refine ⟨s1.heap.objs.size + 1, [s1.heap.objs.size + 1, s1.heap.objs.size], _, _, H1, rfl, I2, turn_enumS x t (strIterType x) hty (s1.heap.objs.size + 1) s1.heap.objs.size, ⟨⟨.none, he⟩, hit, Nat.succ_ne_self _⟩, fun b hb => ?_, q⟩
    have e' : b = s1.heap.objs.size + 1 ∨ b = s1.heap.objs.size := by simpa using hb
    have hle : s1.heap.objs.size ≤ b := by
      rcases e' with z | z
      · rw [z]; exact Nat.le_add_right _ _
      · rw [z]; exact Nat.le_refl _
    exact I1.fpOk hle (I1.hok.fresh hle)
end
def iEnS (w : WE) : WI := fun E Q => w E fun b E1 => ∃ l, b.d = .str l ∧ Q (enumD (sgs l)) E1
section
variable {K : PySem.W.Frag} {F1 : Hp}
theorem sgs_get {l : List Nat} {i : Nat} {d : D} (h : (sgs l)[i]? = some d) : ∃ c, l[i]? = some c ∧ d = .str [c] := by
  unfold sgs at h
  rw [List.getElem?_map] at h
  cases e : l[i]? with
  | none => rw [e] at h; cases h
  | some c => rw [e] at h; cases h; exact ⟨c, rfl, rfl⟩
theorem sgs_len (l : List Nat) : (sgs l).length = l.length := List.length_map _
theorem gives_enumS (l : List Nat) : Gives K (ItE (mkS l)) F1 (enumD (sgs l)) where
  go := fun O F σ H E i r hi => by
    rw [enumD_len, sgs_len] at hi
    show i < l.toArray.size
    simpa using hi
  stop := fun O F σ H E r => by
    show (enumD (sgs l)).length = l.toArray.size
    rw [enumD_len, sgs_len]; simp
  yld := fun O F σ H E i x H' r hi y => by
    rw [enumD_len, sgs_len] at hi
    obtain ⟨T, c, ex, hT, eH, y⟩ := y
    subst ex eH
    have hc : l[i]? = some c := by
      have y : l.toArray[i]? = some c := y
      simpa using y
    have r1 : R K O F1 F σ (upd H T (.tup [.int (i : Nat), .str (oneS c)])) E := r.alloc hT
    obtain ⟨F', s', r', e'⟩ := r1.knowTup upd_same
    refine ⟨F', .tup [.int (i : Nat), .str [c]], s', r', .tup e' (.cons (.int _) (.cons (.str [c]) .nil)), ?_⟩
    unfold enumD sgs
    rw [List.getElem?_map, List.getElem?_zipIdx, List.getElem?_map, hc]
    simp
end
section
variable {X : Cx} {e : Expr} {p pos tpos : Pos} {elts : List Expr} {kk : Nat}
def tStrF (K : PySem.W.Frag) (w : WE) : TA := fun σ H Q => ∃ (O G F : Hp) (E : En) (Q' : B → List Nat → En → Prop), R K O G F σ H E ∧ w E (fun b E1 => ∃ l, b.d = .str l ∧ Q' b l E1) ∧ ∀ l H' F' E' b, Sub F F' → R K O G F' σ H' E' → Q' b l E' → Q [.str (mkS l)] H'
theorem pa_strF {w : WE} (he : ED X e w) (hs : starEach [e] X.env = (false, eval e X.env) :: starEach [] X.env := by rfl) : PA X [e] (tStrF X.K w) := by
  have h := pa_cons he pa_nil hs
  refine ⟨fun pos pins s σ H Q I h2 => ?_⟩
  obtain ⟨O, G, F, E, Q', r, hw, kk⟩ := h2
  refine h.run pos pins s σ H Q I ?_
  refine tE_bind r hw fun v H1 F1 E1 b s1 r1 p1 ⟨l, el, q⟩ => ?_
  obtain ⟨F2, s2, r2, p2⟩ := r1.frz p1
  rw [el] at p2
  cases p2 with
  | str _ => exact kk _ _ _ _ _ (s1.trans s2) r2 q
theorem id_enumS {w : WE} (hg : Gl X "enumerate") (hm : X.mg "enumerate" = none) (he : ED X e w) (hs : starEach [e] X.env = [(false, eval e X.env)] := by rfl) :
    ID X (.Tuple elts kk tpos) (.Call (.Name "enumerate" p) [e] [] pos) (iEnS w) := ⟨fun pins s σ H Rr I h => by
  obtain ⟨O, G, F, E, Q', r, hw, kk⟩ := h
  refine (pi_enumS hg hm (pa_strF he hs) hs).run pins s σ H Rr I ⟨O, G, F, E, fun _ l E1 => Q' (enumD (sgs l)) E1, r, hw, fun l H' F' E' b sb r' q => ?_⟩
  exact ⟨_, rfl, kk _ H' F' E' _ sb r' (gives_enumS l) q⟩⟩
end
section
variable {E : En} {QA : List D → En → Prop} {w : WE} {l : List Nat} {R : Prop}
def enKS (b : B) (E : En) (QA : List D → En → Prop) : Prop := ∃ l, b.d = .str l ∧ QA (enumD (sgs l)) E
instance [e : Ev (w E fun b E1 => enKS b E1 QA) R] : Ev (iEnS w E QA) R := ⟨fun h => e.h h⟩
instance [e : Ev (QA (enumD (sgs l)) E) R] : Ev (enKS (.dat (.str l)) E QA) R := ⟨fun h => ⟨l, rfl, e.h h⟩⟩
end
/-! ### an expression where ways meet -/
def wJ (w : WE) : WE := w
theorem ed_J {X : Cx} {e : Expr} {w : WE} (h : ED X e w) : ED X e (wJ w) := h
theorem x_wJ {w : WE} {E : En} {Q : B → En → Prop} (M : B → En → Prop) (h1 : ∀ Q' : B → En → Prop, (∀ b E', M b E' → Q' b E') → w E Q') (h2 : ∀ b E', M b E' → Q b E') : wJ w E Q := h1 Q h2
end PW

set_option Elab.async false
set_option linter.all false
set_option autoImplicit false
set_option maxRecDepth 100000
set_option maxHeartbeats 4000000
set_option synthInstance.maxHeartbeats 2000000
set_option synthInstance.maxSize 1000000
namespace PW
open PySem PySem.Spec PyProof.Rows L2
/-! ### calls that are lent a list or dict of ours: it stays ours, and as it is -/
def spL (K : PySem.W.Frag) (j : Nat) (fs : FS) : Sp := fun vs H Q _ => ∃ G p d us1 us2 ds1 ds2 P, vs = us1 ++ .ref p :: us2 ∧ ds1.length = j ∧ G p = none ∧ Sub G H ∧ Cell K G H p d ∧ RepL K G us1 ds1 ∧ RepL K G us2 ds2 ∧ fs (ds1 ++ d :: ds2) P ∧
  ∀ b v F' H', P b → Sub G F' → Sub F' H' → (∀ a u, a ≠ p → G a = none → H a = some u → H' a = some u ∧ (F' a = none ∨ isTup u = true)) → F' p = none → Cell K F' H' p d → RB K H F' H' v b → Q v H'
def wArgsL (i : Nat) : List WE → WA → En → (List D → List D → En → Prop) → Prop
  | [], a, E, Q => hasE E i ∧ a E fun ds E1 => Q [] ds E1
  | w :: ws, a, E, Q => w E fun b E1 => wArgsL i ws a E1 fun ds1 ds2 E2 => Q (b.d :: ds1) ds2 E2
def wCallL (i : Nat) (fs : FS) (ws : List WE) (a : WA) : WE := fun E Q => wArgsL i ws a E fun ds1 ds2 E1 => match E1[i]? with
  | some (some b) => b.mu = true ∧ fs (ds1 ++ b.d :: ds2) fun c => Q c E1
  | _ => False
def tL (K : PySem.W.Frag) (i : Nat) : List WE → WA → TA
  | [], a => tCons (tVar i) (tA K a)
  | w :: ws, a => tCons (tE K w) (tL K i ws a)
theorem put_self {b : B} : b.put b.d = b := by cases b <;> rfl
section
variable {K : PySem.W.Frag} {O G F : Hp} {σ : L2.St} {H : Hp} {E : En}
theorem argsL_ok {i : Nat} {a : WA} : ∀ {ws : List WE} {F H : Hp} {E : En} {P : List D → List D → En → Prop} {Q : List V → Hp → Prop}, R K O G F σ H E → wArgsL i ws a E P →
    (∀ us1 v us2 H' F' E' ds1 ds2, Sub F F' → R K O G F' σ H' E' → σ[i]? = some (some v) → RepL K F' us1 ds1 → RepL K F' us2 ds2 → ds1.length = ws.length → P ds1 ds2 E' → Q (us1 ++ v :: us2) H') → tL K i ws a σ H Q
  | [], F, H, E, P, Q, r, ⟨hi, h⟩, k => by
    obtain ⟨b0, hb0⟩ := hasE_of hi
    obtain ⟨v, hv, _⟩ := r.at_ i b0 hb0
    refine ⟨v, hv, ?_⟩
    refine tA_bind r h fun vs H1 F1 E1 ds s1 r1 p1 q1 => ?_
    exact k [] v vs H1 F1 E1 [] ds s1 r1 hv .nil p1 rfl q1
  | w :: ws, F, H, E, P, Q, r, h, k => by
    show tE K w σ H fun u H1 => tL K i ws a σ H1 fun us H2 => Q (u :: us) H2
    refine tE_bind r h fun u H1 F1 E1 b s1 r1 p1 q1 => ?_
    obtain ⟨F2, s2, r2, p2⟩ := r1.frz p1
    refine argsL_ok (ws := ws) r2 q1 fun us1 v us2 H' F' E' ds1 ds2 s3 r3 hv q2 q3 hl hp => ?_
    exact k (u :: us1) v us2 H' F' E' (b.d :: ds1) ds2 ((s1.trans s2).trans s3) r3 hv (.cons (p2.mono s3) q2) q3 (by rw [List.length_cons, List.length_cons, hl]) hp
theorem ok_callL {i : Nat} {fs : FS} {ws : List WE} {a : WA} {Ex : XK} : EOk K (tCall (spL K ws.length fs) [] Ex (tL K i ws a)) (wCallL i fs ws a) := fun O G F σ H E Q r q => by
  refine argsL_ok r q fun us1 v us2 H1 F1 E1 ds1 ds2 s1 r1 hv p1 p2 hl q1 => ?_
  show spL K ws.length fs ((us1 ++ v :: us2) ++ []) H1 _ Ex
  rw [List.append_nil]
  split at q1
  · rename_i b hb
    obtain ⟨hm, q1⟩ := q1
    obtain ⟨v', hv', qb⟩ := r1.at_ i b hb
    rw [hv] at hv'; cases hv'
    have ho : ∃ p, ownA v b = some p := by
      cases b with
      | dat d => cases hm
      | own d => obtain ⟨p, e, _⟩ := qb; subst e; exact ⟨p, rfl⟩
      | par p d => obtain ⟨e, _⟩ := qb; subst e; exact ⟨p, rfl⟩
    obtain ⟨p, ho⟩ := ho
    obtain ⟨e, n, o, c⟩ := qb.own ho
    subst e
    refine ⟨F1, p, b.d, us1, us2, ds1, ds2, _, rfl, hl, n, r1.f, c, p1, p2, q1, fun x w F' H' hq s2 f2 k n2 c2 q2 => ?_⟩
    have r2 := r1.after hb hv ho s2 f2 k n2 c2
    rw [put_self, set_id hb] at r2
    refine ⟨F', E1, x, s1.trans s2, r2, ⟨q2.toO fun a e => r1.oNone (q2.own e).2.2.1, fun a e w => ?_⟩, hq⟩
    have hn := (q2.own e).2.2.1
    exact r1.notOwned hn w
  · exact q1.elim
end
section
variable {X : Cx} {k : Nat} {f : Addr} {fd : FuncData} {ps : List Str} {x : Str} {p pos : Pos} {e : Expr} {es : List Expr} {i : Nat} {y : Str} {py : Pos} {fs : FS} {ws : List WE} {a : WA}
/-- the arguments, one of them lent -/
theorem al_0 {w : WA} (hv : PE X (.Name y py) (tVar i)) (ha : AD X es w) (hs : starEach (.Name y py :: es) X.env = (false, eval (.Name y py) X.env) :: starEach es X.env := by rfl) : PA X (.Name y py :: es) (tL X.K i [] w) := pa_cons hv ha hs
theorem al_s {w : WE} (he : ED X e w) (hr : PA X es (tL X.K i ws a)) (hs : starEach (e :: es) X.env = (false, eval e X.env) :: starEach es X.env := by rfl) : PA X (e :: es) (tL X.K i (w :: ws) a) := pa_cons he hr hs
abbrev CL (P : Program) (w : World) (K : PySem.W.Frag) (mg : Str → Option Value) (base : Heap) (k : Nat) (x : Str) (j : Nat) (fs : FS) : Prop := CFn P w K mg base k x (spL K j fs)
theorem ed_l (c : CL X.prog X.w X.K X.mg X.base k x ws.length fs) (hr : Room k X.A) (hg : Gl X x)
    (ha : PA X (e :: es) (tL X.K i ws a)) (hdb : (x == ("__debug__" : Str)) = false := by decide) (he : starEach (e :: es) X.env = (false, eval e X.env) :: starEach es X.env := by rfl) (hpl : (backTo pos (starEach es X.env)).any (·.1) = false := by rfl) :
    ED X (.Call (.Name x p) (e :: es) [] pos) (wCallL i fs ws a) := by
  obtain ⟨f, fd, ps, F, m, k, b⟩ := c
  exact ed_of (pe_call F hr hg m k b .nil pass0 ha hdb he hpl) ok_callL
end
/-! ### a def that is lent its argument j -/
section
variable {P : Program} {w : World} {K : PySem.W.Frag} {mg : Str → Option Value} {base : Heap}
def stL (p : Addr) (ds1 : List D) (d : D) (ds2 : List D) : List B := ds1.map .dat ++ .par p d :: ds2.map .dat
theorem stL_len {p : Addr} {ds1 ds2 : List D} {d : D} : (stL p ds1 d ds2).length = ds1.length + 1 + ds2.length := by unfold stL; simp; omega
theorem body_L {N : List Str} {t : TS} {ws : WS} {fs : FS} {j : Nat} {vs : List V} {H : Hp} {Q : VK} {Ex : XK} (hok : SOk K t ws) (hN : vs.length ≤ N.length)
    (law : ∀ p ds1 d ds2 P, ds1.length = j → fs (ds1 ++ d :: ds2) P → ws { nx := fun E => E[j]? = some (some (.par p d)) ∧ P (.dat .non), rt := fun b E => E[j]? = some (some (.par p d)) ∧ P b } (start0 N (stL p ds1 d ds2)))
    (h : spL K j fs vs H Q Ex) : t { nx := fun _ H' => Q .non H', rt := Q } (L2.start N vs) H := by
  obtain ⟨G, p, d, us1, us2, ds1, ds2, P, rfl, hj, gp, sg, cell, rep1, rep2, hf, k⟩ := h
  let O : Hp := fun a => if a = p then none else match G a with
    | none => H a
    | some _ => none
  have hO : ∀ a u, O a = some u → H a = some u ∧ G a = none := fun a u e => by
    have e' : (if a = p then none else match G a with | none => H a | some _ => none) = some u := e
    by_cases z : a = p
    · rw [if_pos z] at e'; cases e'
    · rw [if_neg z] at e'
      cases hg : G a with
      | none => rw [hg] at e'; exact ⟨e', rfl⟩
      | some x => rw [hg] at e'; cases e'
  have Op : O p = none := by
    show (if p = p then none else match G p with | none => H p | some _ => none) = none
    rw [if_pos rfl]
  have hl1 := rep1.length
  have kind : ∀ (i : Nat) (b : B), (stL p ds1 d ds2)[i]? = some b → (i = j ∧ b = .par p d ∧ (us1 ++ V.ref p :: us2)[i]? = some (.ref p)) ∨ ∃ d' v, b = .dat d' ∧ (us1 ++ V.ref p :: us2)[i]? = some v ∧ Rep K G v d' := fun i b e => by
    unfold stL at e
    rcases Nat.lt_trichotomy i j with z | z | z
    · rw [List.getElem?_append_left (by rw [List.length_map]; omega), List.getElem?_map] at e
      cases e2 : ds1[i]? with
      | none => rw [e2] at e; cases e
      | some d' =>
        rw [e2] at e; cases e
        obtain ⟨v, hv, q⟩ := rep1.get e2
        exact .inr ⟨d', v, rfl, by rw [List.getElem?_append_left (by omega)]; exact hv, q⟩
    · rw [List.getElem?_append_right (by rw [List.length_map]; omega), List.length_map, show i - ds1.length = 0 by omega] at e
      cases e
      exact .inl ⟨z, rfl, by rw [List.getElem?_append_right (by omega), show i - us1.length = 0 by omega]; rfl⟩
    · rw [List.getElem?_append_right (by rw [List.length_map]; omega), List.length_map, show i - ds1.length = (i - ds1.length - 1) + 1 by omega, List.getElem?_cons_succ, List.getElem?_map] at e
      cases e2 : ds2[i - ds1.length - 1]? with
      | none => rw [e2] at e; cases e
      | some d' =>
        rw [e2] at e; cases e
        obtain ⟨v, hv, q⟩ := rep2.get e2
        exact .inr ⟨d', v, rfl, by rw [List.getElem?_append_right (by omega), show i - us1.length = (i - ds1.length - 1) + 1 by omega, List.getElem?_cons_succ]; exact hv, q⟩
  have own0 : ∀ (i : Nat) (b : B) (v : V) (a : Addr), (start0 N (stL p ds1 d ds2))[i]? = some (some b) → ownA v b = some a → i = j := fun i b v a e z => by
    rcases kind i b (start0_at e) with ⟨e, _⟩ | ⟨d', v', e, _⟩
    · exact e
    · subst e; cases v <;> cases z
  have r0 : R K O G G (L2.start N (us1 ++ .ref p :: us2)) H (start0 N (stL p ds1 d ds2)) := by
    refine ⟨Sub.refl G, sg, fun a u e => ⟨(hO a u e).1, .inl (hO a u e).2⟩, start_len (by rw [stL_len, List.length_append, List.length_cons, rep1.length, rep2.length]; omega) hN, fun i b e => ?_, fun i j' a bi bj v w e1 e2 e3 e4 e5 e6 => by rw [own0 i bi v a e1 e5, own0 j' bj w a e2 e6]⟩
    rcases kind i b (start0_at e) with ⟨e1, e2, e3⟩ | ⟨d', v', e2, e3, q⟩
    · subst e2
      exact ⟨_, start_at e3, rfl, gp, Op, cell⟩
    · subst e2
      exact ⟨_, start_at e3, q⟩
  have fin : ∀ {F' H' σ' E' v b}, R K O G F' σ' H' E' → RR K O F' σ' H' E' v b → (E'[j]? = some (some (.par p d)) ∧ P b) → Q v H' := fun {F' H' σ' E' v b} r q ⟨e0, pp⟩ => by
    obtain ⟨v0, hv0, q0⟩ := r.at_ j _ e0
    obtain ⟨ev, n, o, c⟩ := q0
    have hk : ∀ a u, a ≠ p → G a = none → H a = some u → H' a = some u ∧ (F' a = none ∨ isTup u = true) := fun a u z n e => r.o a u (by
      show (if a = p then none else match G a with | none => H a | some _ => none) = some u
      rw [if_neg z, n]; exact e)
    refine k b v F' H' pp r.g r.f hk n c (q.1.toO fun a e => ?_)
    obtain ⟨_, n', o', _⟩ := q.1.own e
    have z : a ≠ p := fun z => by
      subst z
      exact q.2 a e ⟨j, _, v0, e0, hv0, by subst ev; rfl⟩
    have hg := r.g.gone n'
    have o2 : (if a = p then none else match G a with | none => H a | some _ => none) = none := o'
    rw [if_neg z, hg] at o2
    exact o2
  exact hok O G G _ H _ _ { nx := fun E => E[j]? = some (some (.par p d)) ∧ P (.dat .non), rt := fun b E => E[j]? = some (some (.par p d)) ∧ P b } ⟨fun F σ H E r p => fin r (datRR .non) p, fun F σ H E v b r q p => fin r q p, fun F σ H E r p => p.elim, fun F σ H E r p => p.elim⟩ r0 (law p ds1 d ds2 P hj hf)
end
section
variable {P : Program} {w : World} {K : PySem.W.Frag} {mg : Str → Option Value} {base : Heap} {x qual : Str} {st : Stmt} {f : Addr} {fd : FuncData} {N ps : List Str} {k : Nat}
def endL (j : Nat) (p : Addr) (d : D) (Pp : B → Prop) (b : B) (E : En) : Prop := E[j]? = some (some (.par p d)) ∧ Pp b
/-- what a body that is lent a cell must show -/
def LL (n : Nat) (ws : WS) (j : Nat) (p : Addr) (d : D) (ds1 ds2 : List D) (Pp : B → Prop) : Prop :=
  ws ⟨endL j p d Pp (.dat .non), endL j p d Pp, noE, noE⟩ (sta n (stL p ds1 d ds2))
theorem okL {fs : FS} {ws : WS} {j : Nat} (F : Fun K x qual st f fd) (S : FnScope N ps (defScope st)) (hl : ∀ ds Pp, fs ds Pp → ds.length = ps.length) (hN : ps.length ≤ N.length)
    (der : DerOk P w K mg base N qual st f k ws) (law : ∀ p ds1 d ds2 Pp, ds1.length = j → fs (ds1 ++ d :: ds2) Pp → LL N.length ws j p d ds1 ds2 Pp) : FnOk P w K mg base CX0 (k + 1) f fd ps (spL K j fs) := by
  refine F.ok S (fun vs H Q E ⟨G, p, d, us1, us2, ds1, ds2, Pp, e, _, _, _, _, r1, r2, h, _⟩ => ?_) fun cdv A outer s H vs Q E hr h => ⟨tS K ws, der cdv A outer s H E hr, ?_⟩
  · have := hl _ _ h
    rw [e, ← this, List.length_append, List.length_append, List.length_cons, List.length_cons, r1.length, r2.length]
  · refine body_L tS_ok ?_ (fun p ds1 d ds2 Pp e hf => ?_) h
    · obtain ⟨G, p, d, us1, us2, ds1, ds2, Pp, e, _, _, _, _, r1, r2, h, _⟩ := h
      have := hl _ _ h
      rw [e, List.length_append, List.length_cons, r1.length, r2.length]
      rw [List.length_append, List.length_cons] at this
      omega
    · exact law p ds1 d ds2 Pp e hf
end
section
variable {P : Program} {w : World} {K : PySem.W.Frag} {mg : Str → Option Value} {base : Heap} {x qual : Str} {st : Stmt} {f : Addr} {fd : FuncData} {N : List Str} {k n : Nat} {ws : WS} {Pp : B → Prop} {p : Addr} {E : En}
theorem okL1_0 {g : D → (B → Prop) → Prop} {p1 : Str} (F : Fun K x qual st f fd) (S : FnScope N [p1] (defScope st)) (hN : 1 ≤ N.length) (der : DerOk P w K mg base N qual st f k ws) (law : ∀ p a Pp, g a Pp → LL N.length ws 0 p a [] [] Pp) : FnOk P w K mg base CX0 (k + 1) f fd [p1] (spL K 0 (fs1 g)) :=
  okL F S (fun ds Pp ⟨_, e, h⟩ => by rw [e]; rfl) hN der fun p ds1 d ds2 Pp hl ⟨_, e, h⟩ => by
    match ds1, hl, e with
    | [], _, e =>
      simp only [List.cons_append, List.nil_append, List.cons.injEq] at e
      obtain ⟨rfl, rfl⟩ := e
      exact law p _ Pp h
theorem LL1_0 {a : D} (s : StaR [.par p a] n E) (h : ws ⟨endL 0 p a Pp (.dat .non), endL 0 p a Pp, noE, noE⟩ E) : LL n ws 0 p a [] [] Pp := by
  have e := s.eq
  unfold LL stL
  simp only [List.map_cons, List.map_nil, List.cons_append, List.nil_append]
  rw [e]; exact h
theorem okL2_0 {g : D → D → (B → Prop) → Prop} {p1 p2 : Str} (F : Fun K x qual st f fd) (S : FnScope N [p1, p2] (defScope st)) (hN : 2 ≤ N.length) (der : DerOk P w K mg base N qual st f k ws) (law : ∀ p a b Pp, g a b Pp → LL N.length ws 0 p a [] [b] Pp) : FnOk P w K mg base CX0 (k + 1) f fd [p1, p2] (spL K 0 (fs2 g)) :=
  okL F S (fun ds Pp ⟨_, _, e, h⟩ => by rw [e]; rfl) hN der fun p ds1 d ds2 Pp hl ⟨_, _, e, h⟩ => by
    match ds1, hl, e with
    | [], _, e =>
      simp only [List.cons_append, List.nil_append, List.cons.injEq] at e
      obtain ⟨rfl, rfl⟩ := e
      exact law p _ _ Pp h
theorem LL2_0 {a b : D} (s : StaR [.par p a, .dat b] n E) (h : ws ⟨endL 0 p a Pp (.dat .non), endL 0 p a Pp, noE, noE⟩ E) : LL n ws 0 p a [] [b] Pp := by
  have e := s.eq
  unfold LL stL
  simp only [List.map_cons, List.map_nil, List.cons_append, List.nil_append]
  rw [e]; exact h
theorem okL2_1 {g : D → D → (B → Prop) → Prop} {p1 p2 : Str} (F : Fun K x qual st f fd) (S : FnScope N [p1, p2] (defScope st)) (hN : 2 ≤ N.length) (der : DerOk P w K mg base N qual st f k ws) (law : ∀ p a b Pp, g a b Pp → LL N.length ws 1 p b [a] [] Pp) : FnOk P w K mg base CX0 (k + 1) f fd [p1, p2] (spL K 1 (fs2 g)) :=
  okL F S (fun ds Pp ⟨_, _, e, h⟩ => by rw [e]; rfl) hN der fun p ds1 d ds2 Pp hl ⟨_, _, e, h⟩ => by
    match ds1, hl, e with
    | [x0], _, e =>
      simp only [List.cons_append, List.nil_append, List.cons.injEq] at e
      obtain ⟨rfl, rfl, rfl⟩ := e
      exact law p _ _ Pp h
theorem LL2_1 {a b : D} (s : StaR [.dat a, .par p b] n E) (h : ws ⟨endL 1 p b Pp (.dat .non), endL 1 p b Pp, noE, noE⟩ E) : LL n ws 1 p b [a] [] Pp := by
  have e := s.eq
  unfold LL stL
  simp only [List.map_cons, List.map_nil, List.cons_append, List.nil_append]
  rw [e]; exact h
theorem okL3_0 {g : D → D → D → (B → Prop) → Prop} {p1 p2 p3 : Str} (F : Fun K x qual st f fd) (S : FnScope N [p1, p2, p3] (defScope st)) (hN : 3 ≤ N.length) (der : DerOk P w K mg base N qual st f k ws) (law : ∀ p a b c Pp, g a b c Pp → LL N.length ws 0 p a [] [b, c] Pp) : FnOk P w K mg base CX0 (k + 1) f fd [p1, p2, p3] (spL K 0 (fs3 g)) :=
  okL F S (fun ds Pp ⟨_, _, _, e, h⟩ => by rw [e]; rfl) hN der fun p ds1 d ds2 Pp hl ⟨_, _, _, e, h⟩ => by
    match ds1, hl, e with
    | [], _, e =>
      simp only [List.cons_append, List.nil_append, List.cons.injEq] at e
      obtain ⟨rfl, rfl⟩ := e
      exact law p _ _ _ Pp h
theorem LL3_0 {a b c : D} (s : StaR [.par p a, .dat b, .dat c] n E) (h : ws ⟨endL 0 p a Pp (.dat .non), endL 0 p a Pp, noE, noE⟩ E) : LL n ws 0 p a [] [b, c] Pp := by
  have e := s.eq
  unfold LL stL
  simp only [List.map_cons, List.map_nil, List.cons_append, List.nil_append]
  rw [e]; exact h
theorem okL3_1 {g : D → D → D → (B → Prop) → Prop} {p1 p2 p3 : Str} (F : Fun K x qual st f fd) (S : FnScope N [p1, p2, p3] (defScope st)) (hN : 3 ≤ N.length) (der : DerOk P w K mg base N qual st f k ws) (law : ∀ p a b c Pp, g a b c Pp → LL N.length ws 1 p b [a] [c] Pp) : FnOk P w K mg base CX0 (k + 1) f fd [p1, p2, p3] (spL K 1 (fs3 g)) :=
  okL F S (fun ds Pp ⟨_, _, _, e, h⟩ => by rw [e]; rfl) hN der fun p ds1 d ds2 Pp hl ⟨_, _, _, e, h⟩ => by
    match ds1, hl, e with
    | [x0], _, e =>
      simp only [List.cons_append, List.nil_append, List.cons.injEq] at e
      obtain ⟨rfl, rfl, rfl⟩ := e
      exact law p _ _ _ Pp h
theorem LL3_1 {a b c : D} (s : StaR [.dat a, .par p b, .dat c] n E) (h : ws ⟨endL 1 p b Pp (.dat .non), endL 1 p b Pp, noE, noE⟩ E) : LL n ws 1 p b [a] [c] Pp := by
  have e := s.eq
  unfold LL stL
  simp only [List.map_cons, List.map_nil, List.cons_append, List.nil_append]
  rw [e]; exact h
theorem okL3_2 {g : D → D → D → (B → Prop) → Prop} {p1 p2 p3 : Str} (F : Fun K x qual st f fd) (S : FnScope N [p1, p2, p3] (defScope st)) (hN : 3 ≤ N.length) (der : DerOk P w K mg base N qual st f k ws) (law : ∀ p a b c Pp, g a b c Pp → LL N.length ws 2 p c [a, b] [] Pp) : FnOk P w K mg base CX0 (k + 1) f fd [p1, p2, p3] (spL K 2 (fs3 g)) :=
  okL F S (fun ds Pp ⟨_, _, _, e, h⟩ => by rw [e]; rfl) hN der fun p ds1 d ds2 Pp hl ⟨_, _, _, e, h⟩ => by
    match ds1, hl, e with
    | [x0, x1], _, e =>
      simp only [List.cons_append, List.nil_append, List.cons.injEq] at e
      obtain ⟨rfl, rfl, rfl, rfl⟩ := e
      exact law p _ _ _ Pp h
theorem LL3_2 {a b c : D} (s : StaR [.dat a, .dat b, .par p c] n E) (h : ws ⟨endL 2 p c Pp (.dat .non), endL 2 p c Pp, noE, noE⟩ E) : LL n ws 2 p c [a, b] [] Pp := by
  have e := s.eq
  unfold LL stL
  simp only [List.map_cons, List.map_nil, List.cons_append, List.nil_append]
  rw [e]; exact h
theorem okL4_0 {g : D → D → D → D → (B → Prop) → Prop} {p1 p2 p3 p4 : Str} (F : Fun K x qual st f fd) (S : FnScope N [p1, p2, p3, p4] (defScope st)) (hN : 4 ≤ N.length) (der : DerOk P w K mg base N qual st f k ws) (law : ∀ p a b c d Pp, g a b c d Pp → LL N.length ws 0 p a [] [b, c, d] Pp) : FnOk P w K mg base CX0 (k + 1) f fd [p1, p2, p3, p4] (spL K 0 (fs4 g)) :=
  okL F S (fun ds Pp ⟨_, _, _, _, e, h⟩ => by rw [e]; rfl) hN der fun p ds1 d ds2 Pp hl ⟨_, _, _, _, e, h⟩ => by
    match ds1, hl, e with
    | [], _, e =>
      simp only [List.cons_append, List.nil_append, List.cons.injEq] at e
      obtain ⟨rfl, rfl⟩ := e
      exact law p _ _ _ _ Pp h
theorem LL4_0 {a b c d : D} (s : StaR [.par p a, .dat b, .dat c, .dat d] n E) (h : ws ⟨endL 0 p a Pp (.dat .non), endL 0 p a Pp, noE, noE⟩ E) : LL n ws 0 p a [] [b, c, d] Pp := by
  have e := s.eq
  unfold LL stL
  simp only [List.map_cons, List.map_nil, List.cons_append, List.nil_append]
  rw [e]; exact h
theorem okL4_1 {g : D → D → D → D → (B → Prop) → Prop} {p1 p2 p3 p4 : Str} (F : Fun K x qual st f fd) (S : FnScope N [p1, p2, p3, p4] (defScope st)) (hN : 4 ≤ N.length) (der : DerOk P w K mg base N qual st f k ws) (law : ∀ p a b c d Pp, g a b c d Pp → LL N.length ws 1 p b [a] [c, d] Pp) : FnOk P w K mg base CX0 (k + 1) f fd [p1, p2, p3, p4] (spL K 1 (fs4 g)) :=
  okL F S (fun ds Pp ⟨_, _, _, _, e, h⟩ => by rw [e]; rfl) hN der fun p ds1 d ds2 Pp hl ⟨_, _, _, _, e, h⟩ => by
    match ds1, hl, e with
    | [x0], _, e =>
      simp only [List.cons_append, List.nil_append, List.cons.injEq] at e
      obtain ⟨rfl, rfl, rfl⟩ := e
      exact law p _ _ _ _ Pp h
theorem LL4_1 {a b c d : D} (s : StaR [.dat a, .par p b, .dat c, .dat d] n E) (h : ws ⟨endL 1 p b Pp (.dat .non), endL 1 p b Pp, noE, noE⟩ E) : LL n ws 1 p b [a] [c, d] Pp := by
  have e := s.eq
  unfold LL stL
  simp only [List.map_cons, List.map_nil, List.cons_append, List.nil_append]
  rw [e]; exact h
theorem okL4_2 {g : D → D → D → D → (B → Prop) → Prop} {p1 p2 p3 p4 : Str} (F : Fun K x qual st f fd) (S : FnScope N [p1, p2, p3, p4] (defScope st)) (hN : 4 ≤ N.length) (der : DerOk P w K mg base N qual st f k ws) (law : ∀ p a b c d Pp, g a b c d Pp → LL N.length ws 2 p c [a, b] [d] Pp) : FnOk P w K mg base CX0 (k + 1) f fd [p1, p2, p3, p4] (spL K 2 (fs4 g)) :=
  okL F S (fun ds Pp ⟨_, _, _, _, e, h⟩ => by rw [e]; rfl) hN der fun p ds1 d ds2 Pp hl ⟨_, _, _, _, e, h⟩ => by
    match ds1, hl, e with
    | [x0, x1], _, e =>
      simp only [List.cons_append, List.nil_append, List.cons.injEq] at e
      obtain ⟨rfl, rfl, rfl, rfl⟩ := e
      exact law p _ _ _ _ Pp h
theorem LL4_2 {a b c d : D} (s : StaR [.dat a, .dat b, .par p c, .dat d] n E) (h : ws ⟨endL 2 p c Pp (.dat .non), endL 2 p c Pp, noE, noE⟩ E) : LL n ws 2 p c [a, b] [d] Pp := by
  have e := s.eq
  unfold LL stL
  simp only [List.map_cons, List.map_nil, List.cons_append, List.nil_append]
  rw [e]; exact h
theorem okL4_3 {g : D → D → D → D → (B → Prop) → Prop} {p1 p2 p3 p4 : Str} (F : Fun K x qual st f fd) (S : FnScope N [p1, p2, p3, p4] (defScope st)) (hN : 4 ≤ N.length) (der : DerOk P w K mg base N qual st f k ws) (law : ∀ p a b c d Pp, g a b c d Pp → LL N.length ws 3 p d [a, b, c] [] Pp) : FnOk P w K mg base CX0 (k + 1) f fd [p1, p2, p3, p4] (spL K 3 (fs4 g)) :=
  okL F S (fun ds Pp ⟨_, _, _, _, e, h⟩ => by rw [e]; rfl) hN der fun p ds1 d ds2 Pp hl ⟨_, _, _, _, e, h⟩ => by
    match ds1, hl, e with
    | [x0, x1, x2], _, e =>
      simp only [List.cons_append, List.nil_append, List.cons.injEq] at e
      obtain ⟨rfl, rfl, rfl, rfl, rfl⟩ := e
      exact law p _ _ _ _ Pp h
theorem LL4_3 {a b c d : D} (s : StaR [.dat a, .dat b, .dat c, .par p d] n E) (h : ws ⟨endL 3 p d Pp (.dat .non), endL 3 p d Pp, noE, noE⟩ E) : LL n ws 3 p d [a, b, c] [] Pp := by
  have e := s.eq
  unfold LL stL
  simp only [List.map_cons, List.map_nil, List.cons_append, List.nil_append]
  rw [e]; exact h
theorem okL5_0 {g : D → D → D → D → D → (B → Prop) → Prop} {p1 p2 p3 p4 p5 : Str} (F : Fun K x qual st f fd) (S : FnScope N [p1, p2, p3, p4, p5] (defScope st)) (hN : 5 ≤ N.length) (der : DerOk P w K mg base N qual st f k ws) (law : ∀ p a b c d e Pp, g a b c d e Pp → LL N.length ws 0 p a [] [b, c, d, e] Pp) : FnOk P w K mg base CX0 (k + 1) f fd [p1, p2, p3, p4, p5] (spL K 0 (fs5 g)) :=
  okL F S (fun ds Pp ⟨_, _, _, _, _, e, h⟩ => by rw [e]; rfl) hN der fun p ds1 d ds2 Pp hl ⟨_, _, _, _, _, e, h⟩ => by
    match ds1, hl, e with
    | [], _, e =>
      simp only [List.cons_append, List.nil_append, List.cons.injEq] at e
      obtain ⟨rfl, rfl⟩ := e
      exact law p _ _ _ _ _ Pp h
theorem LL5_0 {a b c d e : D} (s : StaR [.par p a, .dat b, .dat c, .dat d, .dat e] n E) (h : ws ⟨endL 0 p a Pp (.dat .non), endL 0 p a Pp, noE, noE⟩ E) : LL n ws 0 p a [] [b, c, d, e] Pp := by
  have e := s.eq
  unfold LL stL
  simp only [List.map_cons, List.map_nil, List.cons_append, List.nil_append]
  rw [e]; exact h
theorem okL5_1 {g : D → D → D → D → D → (B → Prop) → Prop} {p1 p2 p3 p4 p5 : Str} (F : Fun K x qual st f fd) (S : FnScope N [p1, p2, p3, p4, p5] (defScope st)) (hN : 5 ≤ N.length) (der : DerOk P w K mg base N qual st f k ws) (law : ∀ p a b c d e Pp, g a b c d e Pp → LL N.length ws 1 p b [a] [c, d, e] Pp) : FnOk P w K mg base CX0 (k + 1) f fd [p1, p2, p3, p4, p5] (spL K 1 (fs5 g)) :=
  okL F S (fun ds Pp ⟨_, _, _, _, _, e, h⟩ => by rw [e]; rfl) hN der fun p ds1 d ds2 Pp hl ⟨_, _, _, _, _, e, h⟩ => by
    match ds1, hl, e with
    | [x0], _, e =>
      simp only [List.cons_append, List.nil_append, List.cons.injEq] at e
      obtain ⟨rfl, rfl, rfl⟩ := e
      exact law p _ _ _ _ _ Pp h
theorem LL5_1 {a b c d e : D} (s : StaR [.dat a, .par p b, .dat c, .dat d, .dat e] n E) (h : ws ⟨endL 1 p b Pp (.dat .non), endL 1 p b Pp, noE, noE⟩ E) : LL n ws 1 p b [a] [c, d, e] Pp := by
  have e := s.eq
  unfold LL stL
  simp only [List.map_cons, List.map_nil, List.cons_append, List.nil_append]
  rw [e]; exact h
theorem okL5_2 {g : D → D → D → D → D → (B → Prop) → Prop} {p1 p2 p3 p4 p5 : Str} (F : Fun K x qual st f fd) (S : FnScope N [p1, p2, p3, p4, p5] (defScope st)) (hN : 5 ≤ N.length) (der : DerOk P w K mg base N qual st f k ws) (law : ∀ p a b c d e Pp, g a b c d e Pp → LL N.length ws 2 p c [a, b] [d, e] Pp) : FnOk P w K mg base CX0 (k + 1) f fd [p1, p2, p3, p4, p5] (spL K 2 (fs5 g)) :=
  okL F S (fun ds Pp ⟨_, _, _, _, _, e, h⟩ => by rw [e]; rfl) hN der fun p ds1 d ds2 Pp hl ⟨_, _, _, _, _, e, h⟩ => by
    match ds1, hl, e with
    | [x0, x1], _, e =>
      simp only [List.cons_append, List.nil_append, List.cons.injEq] at e
      obtain ⟨rfl, rfl, rfl, rfl⟩ := e
      exact law p _ _ _ _ _ Pp h
theorem LL5_2 {a b c d e : D} (s : StaR [.dat a, .dat b, .par p c, .dat d, .dat e] n E) (h : ws ⟨endL 2 p c Pp (.dat .non), endL 2 p c Pp, noE, noE⟩ E) : LL n ws 2 p c [a, b] [d, e] Pp := by
  have e := s.eq
  unfold LL stL
  simp only [List.map_cons, List.map_nil, List.cons_append, List.nil_append]
  rw [e]; exact h
theorem okL5_3 {g : D → D → D → D → D → (B → Prop) → Prop} {p1 p2 p3 p4 p5 : Str} (F : Fun K x qual st f fd) (S : FnScope N [p1, p2, p3, p4, p5] (defScope st)) (hN : 5 ≤ N.length) (der : DerOk P w K mg base N qual st f k ws) (law : ∀ p a b c d e Pp, g a b c d e Pp → LL N.length ws 3 p d [a, b, c] [e] Pp) : FnOk P w K mg base CX0 (k + 1) f fd [p1, p2, p3, p4, p5] (spL K 3 (fs5 g)) :=
  okL F S (fun ds Pp ⟨_, _, _, _, _, e, h⟩ => by rw [e]; rfl) hN der fun p ds1 d ds2 Pp hl ⟨_, _, _, _, _, e, h⟩ => by
    match ds1, hl, e with
    | [x0, x1, x2], _, e =>
      simp only [List.cons_append, List.nil_append, List.cons.injEq] at e
      obtain ⟨rfl, rfl, rfl, rfl, rfl⟩ := e
      exact law p _ _ _ _ _ Pp h
theorem LL5_3 {a b c d e : D} (s : StaR [.dat a, .dat b, .dat c, .par p d, .dat e] n E) (h : ws ⟨endL 3 p d Pp (.dat .non), endL 3 p d Pp, noE, noE⟩ E) : LL n ws 3 p d [a, b, c] [e] Pp := by
  have e := s.eq
  unfold LL stL
  simp only [List.map_cons, List.map_nil, List.cons_append, List.nil_append]
  rw [e]; exact h
theorem okL5_4 {g : D → D → D → D → D → (B → Prop) → Prop} {p1 p2 p3 p4 p5 : Str} (F : Fun K x qual st f fd) (S : FnScope N [p1, p2, p3, p4, p5] (defScope st)) (hN : 5 ≤ N.length) (der : DerOk P w K mg base N qual st f k ws) (law : ∀ p a b c d e Pp, g a b c d e Pp → LL N.length ws 4 p e [a, b, c, d] [] Pp) : FnOk P w K mg base CX0 (k + 1) f fd [p1, p2, p3, p4, p5] (spL K 4 (fs5 g)) :=
  okL F S (fun ds Pp ⟨_, _, _, _, _, e, h⟩ => by rw [e]; rfl) hN der fun p ds1 d ds2 Pp hl ⟨_, _, _, _, _, e, h⟩ => by
    match ds1, hl, e with
    | [x0, x1, x2, x3], _, e =>
      simp only [List.cons_append, List.nil_append, List.cons.injEq] at e
      obtain ⟨rfl, rfl, rfl, rfl, rfl, rfl⟩ := e
      exact law p _ _ _ _ _ Pp h
theorem LL5_4 {a b c d e : D} (s : StaR [.dat a, .dat b, .dat c, .dat d, .par p e] n E) (h : ws ⟨endL 4 p e Pp (.dat .non), endL 4 p e Pp, noE, noE⟩ E) : LL n ws 4 p e [a, b, c, d] [] Pp := by
  have e := s.eq
  unfold LL stL
  simp only [List.map_cons, List.map_nil, List.cons_append, List.nil_append]
  rw [e]; exact h
end
/-! ### run -/
def callLK (i : Nat) (fs : FS) (ds1 ds2 : List D) (E1 : En) (Q : B → En → Prop) : Prop := match E1[i]? with
  | some (some b) => b.mu = true ∧ fs (ds1 ++ b.d :: ds2) fun c => Q c E1
  | _ => False
def argLK (i : Nat) (ws : List WE) (a : WA) (b : B) (E1 : En) (Q : List D → List D → En → Prop) : Prop := wArgsL i ws a E1 fun ds1 ds2 E2 => Q (b.d :: ds1) ds2 E2
class AppC (a : List D) (x : D) (b : List D) (l : outParam (List D)) : Prop where h : a ++ x :: b = l
instance {x : D} {b : List D} : AppC [] x b (x :: b) := ⟨rfl⟩
instance {y x : D} {a b l : List D} [h : AppC a x b l] : AppC (y :: a) x b (y :: l) := ⟨by rw [List.cons_append, h.h]⟩
section
variable {E : En} {Q : B → En → Prop} {QL : List D → List D → En → Prop} {i : Nat} {fs : FS} {ws : List WE} {a : WA} {w : WE} {x d : D} {ds1 ds2 l : List D} {R : Prop} {b : B} {p : Addr} {j : Nat} {Pp : B → Prop}
instance [e : Ev (wArgsL i ws a E fun ds1 ds2 E1 => callLK i fs ds1 ds2 E1 Q) R] : Ev (wCallL i fs ws a E Q) R := ⟨fun h => e.h h⟩
instance [g : AtC E i b] [e : Ev (a E fun ds E1 => QL [] ds E1) R] : Ev (wArgsL i [] a E QL) R := ⟨fun h => ⟨by unfold hasE; rw [g.h.eq]; trivial, e.h h⟩⟩
instance [e : Ev (w E fun b E1 => argLK i ws a b E1 QL) R] : Ev (wArgsL i (w :: ws) a E QL) R := ⟨fun h => e.h h⟩
instance [c : DtC b d] [e : Ev (wArgsL i ws a E fun ds1 ds2 E2 => QL (d :: ds1) ds2 E2) R] : Ev (argLK i ws a b E QL) R := ⟨fun h => by unfold argLK; rw [c.h]; exact e.h h⟩
instance [g : AtC E i (.own x)] [c : AppC ds1 x ds2 l] [e : Ev (fs l fun c => Q c E) R] : Ev (callLK i fs ds1 ds2 E Q) R := ⟨fun h => by unfold callLK; rw [g.h.eq]; exact ⟨rfl, by show fs (ds1 ++ x :: ds2) _; rw [c.h]; exact e.h h⟩⟩
instance [g : AtC E i (.par p x)] [c : AppC ds1 x ds2 l] [e : Ev (fs l fun c => Q c E) R] : Ev (callLK i fs ds1 ds2 E Q) R := ⟨fun h => by unfold callLK; rw [g.h.eq]; exact ⟨rfl, by show fs (ds1 ++ x :: ds2) _; rw [c.h]; exact e.h h⟩⟩
instance [g : AtC E j (.par p d)] [e : Ev (Pp b) R] : Ev (endL j p d Pp b E) R := ⟨fun h => ⟨g.h.eq, e.h h⟩⟩
end
end PW

set_option Elab.async false
set_option linter.all false
set_option autoImplicit false
set_option maxRecDepth 100000
set_option maxHeartbeats 4000000
namespace PW
open PySem PySem.Spec PyProof.Rows L2
/-! ### a module's texts -/
def lowL : List Nat := (List.range 26).map (97 + ·)
def upL : List Nat := (List.range 26).map (65 + ·)
def sigL : List Nat := lowL ++ (List.range 10).map (48 + ·) ++ [32, 46, 45, 61]
theorem ed_gstr {X : Cx} {x s : Str} {l : List Nat} {pos : Pos} (hg : Gl X x) (hm : ∃ t, X.mg x = some (.str s t)) (h : s = mkS l) (hd : (x == ("__debug__" : Str)) = false := by decide) : ED X (.Name x pos) (wC (.str l)) := by
  obtain ⟨t, e⟩ := hm
  subst h
  exact ed_glob hg e (v := V.str (mkS l)) (show ∃ t0, _ from ⟨t, rfl⟩) (fun F => .str l) hd
/-! ### grammars, without a program in sight -/
abbrev Gm := List (Nat × List Wo)
def rl (G : Gm) (c : Nat) : Option (List Wo) := (G.find? fun p => decide (p.1 = c)).map (·.2)
def hds (G : Gm) : List Nat := G.map (·.1)
def rs (G : Gm) (c : Nat) : List Wo := (rl G c).getD []
theorem rl_mem {G : Gm} {c : Nat} {t : List Wo} (h : rl G c = some t) : (c, t) ∈ G := by
  unfold rl at h
  cases e : G.find? fun p => decide (p.1 = c) with
  | none => rw [e] at h; cases h
  | some p =>
    rw [e] at h
    have h1 := List.mem_of_find?_eq_some e
    have h2 := of_decide_eq_true (List.find?_some (p := fun p : Nat × List Wo => decide (p.1 = c)) e)
    cases h
    rw [← h2]; exact h1
theorem rl_is {G : Gm} {c : Nat} : (rl G c).isSome = decide (c ∈ hds G) := by
  unfold rl hds
  rw [Option.isSome_map]
  cases e : G.find? fun p => decide (p.1 = c) with
  | none =>
    symm
    rw [Option.isSome_none, decide_eq_false_iff_not]
    intro h
    obtain ⟨p, hp, e2⟩ := List.mem_map.mp h
    have := List.find?_eq_none.mp e p hp
    simp [e2] at this
  | some p =>
    symm
    rw [Option.isSome_some, decide_eq_true_iff]
    exact List.mem_map.mpr ⟨p, List.mem_of_find?_eq_some e, of_decide_eq_true (List.find?_some (p := fun p : Nat × List Wo => decide (p.1 = c)) e)⟩
theorem rl_at {G : Gm} {c : Nat} (h : c ∈ hds G) : rl G c = some (rs G c) := by
  have := rl_is (G := G) (c := c)
  rw [decide_eq_true h] at this
  obtain ⟨t, e⟩ := Option.isSome_iff_exists.mp this
  unfold rs
  rw [e]; rfl
theorem rs_in {G : Gm} {c : Nat} (h : c ∈ hds G) : (c, rs G c) ∈ G := rl_mem (rl_at h)
theorem rs_out {G : Gm} {c : Nat} (h : c ∉ hds G) : rs G c = [] := by
  have := rl_is (G := G) (c := c)
  rw [decide_eq_false h] at this
  unfold rs
  rw [Option.isSome_eq_false_iff.mp this |> Option.isNone_iff_eq_none.mp]; rfl
theorem rs_head {G : Gm} {c : Nat} {p : Wo} (h : p ∈ rs G c) : c ∈ hds G := by
  by_cases z : c ∈ hds G
  · exact z
  · rw [rs_out z] at h; cases h
/-- signs grow to a word -/
inductive Gr (G : Gm) : Wo → Wo → Prop
  | nil : Gr G [] []
  | lt {c : Nat} {s w : Wo} : c ∉ hds G → Gr G s w → Gr G (c :: s) (c :: w)
  | hd {h : Nat} {p u s w : Wo} : p ∈ rs G h → Gr G p u → Gr G s w → Gr G (h :: s) (u ++ w)
theorem Gr.one {G : Gm} {h : Nat} {p u : Wo} (hp : p ∈ rs G h) (g : Gr G p u) : Gr G [h] u := by
  have := Gr.hd hp g .nil
  rwa [List.append_nil] at this
theorem Gr.of_one {G : Gm} {h : Nat} {u : Wo} (hh : h ∈ hds G) (g : Gr G [h] u) : ∃ p ∈ rs G h, Gr G p u := by
  generalize e : [h] = s at g
  cases g with
  | nil => cases e
  | lt h1 h2 => cases e; exact (h1 hh).elim
  | hd hp g1 g2 =>
    cases e
    cases g2
    rw [List.append_nil]
    exact ⟨_, hp, g1⟩
theorem Gr.app {G : Gm} {s t u v : Wo} (g : Gr G s u) (g' : Gr G t v) : Gr G (s ++ t) (u ++ v) := by
  induction g with
  | nil => exact g'
  | lt h1 _ ih => exact .lt h1 ih
  | hd hp g1 _ _ ih => rw [List.cons_append, List.append_assoc]; exact .hd hp g1 ih
theorem Gr.split {G : Gm} {t : Wo} : ∀ {s w : Wo}, Gr G (s ++ t) w → ∃ u v, w = u ++ v ∧ Gr G s u ∧ Gr G t v
  | [], w, g => ⟨[], w, rfl, .nil, g⟩
  | c :: s, w, g => by
    rw [List.cons_append] at g
    cases g with
    | lt h1 h2 =>
      obtain ⟨u, v, e, a, b⟩ := Gr.split h2
      exact ⟨c :: u, v, by rw [e]; rfl, .lt h1 a, b⟩
    | hd hp g1 g2 =>
      obtain ⟨u, v, e, a, b⟩ := Gr.split g2
      exact ⟨_ ++ u, v, by rw [e, List.append_assoc], .hd hp g1 a, b⟩
theorem Gr.cons {G : Gm} {c : Nat} {s w : Wo} (g : Gr G (c :: s) w) : ∃ u v, w = u ++ v ∧ Gr G [c] u ∧ Gr G s v := Gr.split (s := [c]) g
theorem Gr.letter {G : Gm} {c : Nat} {w : Wo} (h : c ∉ hds G) (g : Gr G [c] w) : w = [c] := by
  cases g with
  | lt h1 h2 => cases h2; rfl
  | hd hp g1 g2 => exact (h (rs_head hp)).elim

/-! ### least lots of heads -/
def kl (H : List Nat) (F : List Nat → Nat → Bool) : Nat → List Nat
  | 0 => []
  | n + 1 => H.filter (F (kl H F n))
section
variable {H : List Nat} {F : List Nat → Nat → Bool}
theorem kl_sub (hm : ∀ A B : List Nat, (∀ x ∈ A, x ∈ B) → ∀ x, F A x = true → F B x = true) : ∀ n, ∀ x ∈ kl H F n, x ∈ kl H F (n + 1)
  | 0, x, h => by cases h
  | n + 1, x, h => by
    have ih := kl_sub hm n
    obtain ⟨h1, h2⟩ := List.mem_filter.mp h
    exact List.mem_filter.mpr ⟨h1, hm _ _ ih x h2⟩
theorem filter_len {p q : Nat → Bool} : ∀ {H : List Nat}, (∀ x ∈ H, p x = true → q x = true) → (H.filter p).length ≤ (H.filter q).length ∧ ((H.filter p).length = (H.filter q).length → H.filter p = H.filter q)
  | [], _ => ⟨Nat.le_refl _, fun _ => rfl⟩
  | a :: H, h => by
    obtain ⟨h1, h2⟩ := filter_len (H := H) fun x hx => h x (List.mem_cons_of_mem _ hx)
    have ha := h a List.mem_cons_self
    rw [List.filter_cons, List.filter_cons]
    cases e : p a with
    | true =>
      rw [ha e, if_pos rfl, if_pos rfl, List.length_cons, List.length_cons]
      exact ⟨Nat.succ_le_succ h1, fun z => by rw [h2 (Nat.succ.inj z)]⟩
    | false =>
      rw [if_neg Bool.false_ne_true]
      cases e2 : q a with
      | true =>
        rw [if_pos rfl, List.length_cons]
        exact ⟨by omega, fun z => by omega⟩
      | false => rw [if_neg Bool.false_ne_true]; exact ⟨h1, h2⟩
theorem kl_stay {m : Nat} (h : kl H F (m + 1) = kl H F m) : ∀ j, kl H F (m + j) = kl H F m
  | 0 => rfl
  | j + 1 => by
    show H.filter (F (kl H F (m + j))) = _
    rw [kl_stay h j]; exact h
theorem kl_grow (hm : ∀ A B : List Nat, (∀ x ∈ A, x ∈ B) → ∀ x, F A x = true → F B x = true) : ∀ n, (∃ m, m ≤ n ∧ kl H F (m + 1) = kl H F m) ∨ n + 1 ≤ (kl H F (n + 1)).length
  | 0 => by
    cases e : kl H F 1 with
    | nil => exact .inl ⟨0, Nat.le_refl _, e⟩
    | cons a l => exact .inr (by simp)
  | n + 1 => by
    rcases kl_grow hm n with ⟨m, h1, h2⟩ | h
    · exact .inl ⟨m, by omega, h2⟩
    · obtain ⟨h1, h2⟩ := filter_len (H := H) (p := F (kl H F n)) (q := F (kl H F (n + 1))) fun x _ => hm _ _ (kl_sub hm n) x
      rcases Nat.lt_or_ge (kl H F (n + 1)).length (kl H F (n + 1 + 1)).length with z | z
      · exact .inr (by omega)
      · exact .inl ⟨n + 1, Nat.le_refl _, (h2 (Nat.le_antisymm h1 z)).symm⟩
theorem kl_fix (hm : ∀ A B : List Nat, (∀ x ∈ A, x ∈ B) → ∀ x, F A x = true → F B x = true) : kl H F (H.length + 1) = kl H F H.length := by
  rcases kl_grow (H := H) hm H.length with ⟨m, h1, h2⟩ | h
  · have a := kl_stay h2 (H.length - m)
    have b := kl_stay h2 (H.length - m + 1)
    rw [show m + (H.length - m) = H.length by omega] at a
    rw [show m + (H.length - m + 1) = H.length + 1 by omega] at b
    rw [a, b]
  · have : (kl H F (H.length + 1)).length ≤ H.length := List.length_filter_le _ _
    omega
end
/-- heads with a sprout all of whose signs are good or in A -/
def hasS (told : List Wo) (A : List Nat) (g : Nat → Bool) : Bool := told.any fun p => p.all fun c => decide (c ∈ A) || g c
def stC (G : Gm) (g : Nat → Bool) (A : List Nat) (h : Nat) : Bool := hasS (rs G h) A g
theorem stC_mono (G : Gm) (g : Nat → Bool) : ∀ A B : List Nat, (∀ x ∈ A, x ∈ B) → ∀ x, stC G g A x = true → stC G g B x = true := fun A B h x e => by
  unfold stC hasS at *
  obtain ⟨p, hp, e⟩ := List.any_eq_true.mp e
  refine List.any_eq_true.mpr ⟨p, hp, List.all_eq_true.mpr fun c hc => ?_⟩
  have := List.all_eq_true.mp e c hc
  rw [Bool.or_eq_true, decide_eq_true_iff] at *
  exact this.imp (h c) id
inductive Fx (G : Gm) (g : Nat → Bool) : Nat → Prop
  | mk {h : Nat} {p : Wo} : p ∈ rs G h → (∀ c ∈ p, g c = false → Fx G g c) → Fx G g h
def cl (G : Gm) (g : Nat → Bool) (H : List Nat) : List Nat := kl H (stC G g) H.length
theorem kl_sound {G : Gm} {g : Nat → Bool} {H : List Nat} : ∀ n, ∀ x ∈ kl H (stC G g) n, Fx G g x
  | 0, x, h => by cases h
  | n + 1, x, h => by
    obtain ⟨_, e⟩ := List.mem_filter.mp h
    unfold stC hasS at e
    obtain ⟨p, hp, e⟩ := List.any_eq_true.mp e
    refine .mk hp fun c hc gc => ?_
    have := List.all_eq_true.mp e c hc
    rw [gc, Bool.or_false, decide_eq_true_iff] at this
    exact kl_sound n c this
/-- a lot that is closed holds them all -/
theorem Fx.closed {G : Gm} {g : Nat → Bool} {A : List Nat} (hc : ∀ h ∈ hds G, stC G g A h = true → h ∈ A) {x : Nat} (f : Fx G g x) : x ∈ A := by
  induction f with
  | @mk h p hp _ ih =>
    refine hc h (rs_head hp) (List.any_eq_true.mpr ⟨p, hp, List.all_eq_true.mpr fun c hc => ?_⟩)
    rw [Bool.or_eq_true, decide_eq_true_iff]
    cases e : g c with
    | true => exact .inr rfl
    | false => exact .inl (ih c hc e)
theorem Fx.head {G : Gm} {g : Nat → Bool} {x : Nat} (f : Fx G g x) : x ∈ hds G := by
  cases f with
  | mk hp _ => exact rs_head hp
theorem cl_iff {G : Gm} {g : Nat → Bool} {H : List Nat} (hH : ∀ x, x ∈ H ↔ x ∈ hds G) {x : Nat} : x ∈ cl G g H ↔ Fx G g x := by
  refine ⟨kl_sound _ x, fun f => f.closed fun h hh e => ?_⟩
  unfold cl
  rw [← kl_fix (stC_mono G g)]
  exact List.mem_filter.mpr ⟨(hH h).mpr hh, e⟩
/-- good signs are no heads -/
theorem fx_grows {G : Gm} {g : Nat → Bool} (hg : ∀ c, g c = true → c ∉ hds G) {x : Nat} (f : Fx G g x) : ∃ w, Gr G [x] w ∧ ∀ c ∈ w, g c = true := by
  induction f with
  | @mk h p hp _ ih =>
    have : ∀ s : Wo, (∀ c ∈ s, c ∈ p) → ∃ w, Gr G s w ∧ ∀ c ∈ w, g c = true := by
      intro s
      induction s with
      | nil => intro _; exact ⟨[], .nil, fun c h => by cases h⟩
      | cons c s ihs =>
        intro hs
        obtain ⟨w, gw, hw⟩ := ihs fun d hd => hs d (List.mem_cons_of_mem _ hd)
        cases e : g c with
        | true => exact ⟨c :: w, .lt (hg c e) gw, fun d hd => by
            rcases List.mem_cons.mp hd with z | z
            · rw [z]; exact e
            · exact hw d z⟩
        | false =>
          obtain ⟨u, gu, hu⟩ := ih c (hs c List.mem_cons_self) e
          refine ⟨u ++ w, gu.app (s := [c]) gw, fun d hd => ?_⟩
          rcases List.mem_append.mp hd with z | z
          · exact hu d z
          · exact hw d z
    obtain ⟨w, gw, hw⟩ := this p fun _ h => h
    exact ⟨w, .one hp gw, hw⟩
theorem grows_fx {G : Gm} {g : Nat → Bool} {s w : Wo} (gr : Gr G s w) (hw : ∀ c ∈ w, g c = true) : ∀ c ∈ s, g c = true ∨ Fx G g c := by
  induction gr with
  | nil => intro c h; cases h
  | lt h1 _ ih =>
    intro c hc
    rcases List.mem_cons.mp hc with z | z
    · rw [z]; exact .inl (hw _ List.mem_cons_self)
    · exact ih (fun d hd => hw d (List.mem_cons_of_mem _ hd)) c z
  | hd hp _ _ ih1 ih2 =>
    intro c hc
    rcases List.mem_cons.mp hc with z | z
    · rw [z]
      refine .inr (.mk hp fun d hd e => ?_)
      rcases ih1 (fun x hx => hw x (List.mem_append_left _ hx)) d hd with y | y
      · rw [e] at y; cases y
      · exact y
    · exact ih2 (fun d hd => hw d (List.mem_append_right _ hd)) c z

/-! ### what is reached -/
inductive Rch (r : Nat → Nat → Prop) (S : Nat → Prop) : Nat → Prop
  | st {x : Nat} : S x → Rch r S x
  | nx {x y : Nat} : Rch r S x → r x y → Rch r S y
theorem Rch.closed {r : Nat → Nat → Prop} {S : Nat → Prop} {A : List Nat} (h0 : ∀ x, S x → x ∈ A) (hc : ∀ x ∈ A, ∀ y, r x y → y ∈ A) {x : Nat} (h : Rch r S x) : x ∈ A := by
  induction h with
  | st h => exact h0 _ h
  | nx _ e ih => exact hc _ ih _ e

/-! ### growth without a head below itself -/
inductive GrA (G : Gm) : (Nat → Prop) → Wo → Wo → Prop
  | nil {A : Nat → Prop} : GrA G A [] []
  | lt {A : Nat → Prop} {c : Nat} {s w : Wo} : c ∉ hds G → GrA G A s w → GrA G A (c :: s) (c :: w)
  | hd {A : Nat → Prop} {h : Nat} {p u s w : Wo} : A h → p ∈ rs G h → GrA G (fun x => A x ∧ x ≠ h) p u → GrA G A s w → GrA G A (h :: s) (u ++ w)
theorem GrA.mono {G : Gm} {A : Nat → Prop} {s w : Wo} (g : GrA G A s w) : ∀ {B : Nat → Prop}, (∀ x, A x → B x) → GrA G B s w := by
  induction g with
  | nil => intro B _; exact .nil
  | lt h1 _ ih => intro B h; exact .lt h1 (ih h)
  | hd ha hp _ _ ih1 ih2 => intro B h; exact .hd (h _ ha) hp (ih1 fun x ⟨a, b⟩ => ⟨h x a, b⟩) (ih2 h)
theorem GrA.gr {G : Gm} {A : Nat → Prop} {s w : Wo} (g : GrA G A s w) : Gr G s w := by
  induction g with
  | nil => exact .nil
  | lt h1 _ ih => exact .lt h1 ih
  | hd ha hp _ _ ih1 ih2 => exact .hd hp ih1 ih2
theorem GrA.split {G : Gm} {h : Nat} {A : Nat → Prop} {s w : Wo} (g : GrA G A s w) : GrA G (fun x => A x ∧ x ≠ h) s w ∨ ∃ (B : Nat → Prop) (u : Wo), (∀ x, B x → A x) ∧ GrA G B [h] u ∧ u.length ≤ w.length := by
  induction g with
  | nil => exact .inl .nil
  | lt h1 _ ih =>
    rcases ih with z | ⟨B, u, a, b, c⟩
    · exact .inl (.lt h1 z)
    · exact .inr ⟨B, u, a, b, by simp; omega⟩
  | @hd A h' p u s w ha hp g1 g2 ih1 ih2 =>
    by_cases e : h' = h
    · subst e
      refine .inr ⟨A, u, fun _ a => a, ?_, by simp⟩
      have := GrA.hd ha hp g1 .nil
      rwa [List.append_nil] at this
    · rcases ih1 with z | ⟨B, v, a, b, c⟩
      · rcases ih2 with y | ⟨B, v, a, b, c⟩
        · exact .inl (.hd ⟨ha, e⟩ hp (z.mono fun x ⟨⟨a, b⟩, c⟩ => ⟨⟨a, c⟩, b⟩) y)
        · exact .inr ⟨B, v, a, b, by simp; omega⟩
      · exact .inr ⟨B, v, fun x hx => (a x hx).1, b, by simp; omega⟩
theorem Gr.short {G : Gm} {s w : Wo} (g : Gr G s w) : ∃ v, GrA G (· ∈ hds G) s v ∧ v.length ≤ w.length := by
  induction g with
  | nil => exact ⟨[], .nil, Nat.le_refl _⟩
  | lt h1 _ ih =>
    obtain ⟨v, a, b⟩ := ih
    exact ⟨_ :: v, .lt h1 a, by simp; exact b⟩
  | @hd h p u s w hp _ _ ih1 ih2 =>
    obtain ⟨v1, a1, b1⟩ := ih1
    obtain ⟨v2, a2, b2⟩ := ih2
    rcases a1.split (h := h) with z | ⟨B, v, x, y, c⟩
    · exact ⟨v1 ++ v2, .hd (rs_head hp) hp z a2, by simp; omega⟩
    · have y := y.mono x
      generalize e : [h] = q at y
      cases y with
      | nil => cases e
      | lt h1 _ => cases e; exact (h1 (rs_head hp)).elim
      | hd ha' hp' g1 g2 =>
        cases e
        cases g2
        rw [List.append_nil] at c
        exact ⟨_ ++ v2, .hd (rs_head hp) hp' g1 a2, by simp; omega⟩
/-- growth of so many storeys -/
inductive GrN (G : Gm) : Nat → Wo → Wo → Prop
  | nil {n : Nat} : GrN G n [] []
  | lt {n c : Nat} {s w : Wo} : c ∉ hds G → GrN G n s w → GrN G n (c :: s) (c :: w)
  | hd {n h : Nat} {p u s w : Wo} : p ∈ rs G h → GrN G n p u → GrN G (n + 1) s w → GrN G (n + 1) (h :: s) (u ++ w)
theorem GrA.storeys {G : Gm} {A : Nat → Prop} {s w : Wo} (g : GrA G A s w) : ∀ L : List Nat, (∀ x, A x → x ∈ L) → GrN G L.length s w := by
  induction g with
  | nil => intro L _; exact .nil
  | lt h1 _ ih => intro L h; exact .lt h1 (ih L h)
  | @hd A h p u s w ha hp _ _ ih1 ih2 =>
    intro L hL
    have h1 := hL h ha
    have e : L.length = (L.erase h).length + 1 := by
      rw [List.length_erase_of_mem h1]
      have := List.length_pos_of_mem h1
      omega
    have i1 := ih1 (L.erase h) fun x ⟨a, b⟩ => (List.mem_erase_of_ne b).mpr (hL x a)
    have i2 := ih2 L hL
    rw [e] at i2 ⊢
    exact .hd hp i1 i2
theorem GrN.more {G : Gm} {n : Nat} {s w : Wo} (g : GrN G n s w) : GrN G (n + 1) s w := by
  induction g with
  | nil => exact .nil
  | lt h1 _ ih => exact .lt h1 ih
  | hd hp _ _ ih1 ih2 => exact .hd hp ih1 ih2
theorem GrN.le {G : Gm} {n : Nat} {s w : Wo} (g : GrN G n s w) : ∀ {m : Nat}, n ≤ m → GrN G m s w
  | m, h => by
    induction m with
    | zero => rw [show n = 0 by omega] at g; exact g
    | succ m ih =>
      rcases Nat.eq_or_lt_of_le h with e | e
      · rw [← e]; exact g
      · exact (ih (by omega)).more
theorem Gr.low {G : Gm} {s w : Wo} (g : Gr G s w) {n : Nat} (hn : (hds G).length ≤ n) : ∃ v, GrN G n s v ∧ v.length ≤ w.length := by
  obtain ⟨v, a, b⟩ := g.short
  exact ⟨v, (a.storeys (hds G) fun _ h => h).le hn, b⟩

/-! ### spans -/
abbrev Sp3 := Nat × Nat × Nat
/-- one sign's way, with what is found -/
def stpS (G : Gm) (word : Wo) (fd : Sp3 → Prop) (c i j : Nat) : Prop := if c ∈ hds G then fd (c, i, j) ∧ i ≤ j ∧ j ≤ word.length else word[i]? = some c ∧ j = i + 1
inductive EndS (G : Gm) (word : Wo) (fd : Sp3 → Prop) : Wo → Nat → Nat → Prop
  | nil {i : Nat} : i ≤ word.length → EndS G word fd [] i i
  | snoc {s : Wo} {c i j k : Nat} : EndS G word fd s i j → stpS G word fd c j k → EndS G word fd (s ++ [c]) i k
def Span (G : Gm) (word : Wo) (t : Sp3) : Prop := t.1 ∈ hds G ∧ t.2.1 ≤ t.2.2 ∧ t.2.2 ≤ word.length ∧ Gr G [t.1] ((word.drop t.2.1).take (t.2.2 - t.2.1))
theorem stpS.le {G : Gm} {word : Wo} {fd : Sp3 → Prop} {c i j : Nat} (h : stpS G word fd c i j) : i ≤ j ∧ j ≤ word.length := by
  unfold stpS at h
  split at h
  · exact h.2
  · obtain ⟨h1, rfl⟩ := h
    have := (List.getElem?_eq_some_iff.mp h1).1
    omega
theorem EndS.le {G : Gm} {word : Wo} {fd : Sp3 → Prop} {s : Wo} {i j : Nat} (h : EndS G word fd s i j) : i ≤ j ∧ j ≤ word.length := by
  induction h with
  | nil h => exact ⟨Nat.le_refl _, h⟩
  | snoc _ h ih => have := h.le; omega
theorem EndS.snoc_iff {G : Gm} {word : Wo} {fd : Sp3 → Prop} {s : Wo} {c i k : Nat} : EndS G word fd (s ++ [c]) i k ↔ ∃ j, EndS G word fd s i j ∧ stpS G word fd c j k := by
  constructor
  · intro h
    generalize e : s ++ [c] = t at h
    cases h with
    | nil _ => simp at e
    | snoc a b =>
      obtain ⟨e1, e2⟩ := List.append_inj' e rfl
      cases e2; subst e1
      exact ⟨_, a, b⟩
  · rintro ⟨j, a, b⟩
    exact .snoc a b
theorem EndS.nil_iff {G : Gm} {word : Wo} {fd : Sp3 → Prop} {i k : Nat} : EndS G word fd [] i k ↔ i ≤ word.length ∧ k = i := by
  constructor
  · intro h
    generalize e : ([] : Wo) = t at h
    cases h with
    | nil h => exact ⟨h, rfl⟩
    | snoc a b => simp at e
  · rintro ⟨h, rfl⟩
    exact .nil h
theorem EndS.app {G : Gm} {word : Wo} {fd : Sp3 → Prop} {s t : Wo} {i j k : Nat} (h : EndS G word fd s i j) (h' : EndS G word fd t j k) : EndS G word fd (s ++ t) i k := by
  induction h' with
  | nil _ => rw [List.append_nil]; exact h
  | snoc _ b ih => rw [← List.append_assoc]; exact .snoc (ih h) b
theorem EndS.one {G : Gm} {word : Wo} {fd : Sp3 → Prop} {c i k : Nat} (h : stpS G word fd c i k) : EndS G word fd [c] i k := by
  have := h.le
  exact .snoc (s := []) (.nil (by omega)) h
theorem seg_app {word : Wo} {i j k : Nat} (h1 : i ≤ j) (h2 : j ≤ k) : (word.drop i).take (k - i) = (word.drop i).take (j - i) ++ (word.drop j).take (k - j) := by
  rw [show k - i = (j - i) + (k - j) by omega, List.take_add, List.drop_drop, show i + (j - i) = j by omega]
theorem seg_one {word : Wo} {i c : Nat} (h : word[i]? = some c) : (word.drop i).take 1 = [c] := by
  have hi := (List.getElem?_eq_some_iff.mp h).1
  rw [List.drop_eq_getElem_cons hi, (List.getElem?_eq_some_iff.mp h).2]; rfl
/-- what is found grows -/
theorem EndS.grows {G : Gm} {word : Wo} {fd : Sp3 → Prop} (hf : ∀ t, fd t → Span G word t) {s : Wo} {i j : Nat} (h : EndS G word fd s i j) : Gr G s ((word.drop i).take (j - i)) := by
  induction h with
  | nil _ => rw [Nat.sub_self, List.take_zero]; exact .nil
  | @snoc s c i j k a b ih =>
    rw [seg_app a.le.1 b.le.1]
    refine ih.app ?_
    unfold stpS at b
    split at b
    · exact (hf _ b.1).2.2.2
    · rename_i hn
      obtain ⟨h1, rfl⟩ := b
      rw [show j + 1 - j = 1 by omega, seg_one h1]
      exact .lt hn .nil
/-- what is closed holds all -/
theorem Gr.found {G : Gm} {word : Wo} {fd : Sp3 → Prop} (hc : ∀ h ∈ hds G, ∀ p ∈ rs G h, ∀ i j, EndS G word fd p i j → fd (h, i, j)) {s w : Wo} (g : Gr G s w) : ∀ i j, i ≤ j → j ≤ word.length → (word.drop i).take (j - i) = w → EndS G word fd s i j := by
  induction g with
  | nil =>
    intro i j h1 h2 e
    have : ((word.drop i).take (j - i)).length = 0 := by rw [e]; rfl
    rw [List.length_take, List.length_drop] at this
    rw [show j = i by omega]
    exact .nil (by omega)
  | @lt c s w hn _ ih =>
    intro i j h1 h2 e
    have hl : ((word.drop i).take (j - i)).length = w.length + 1 := by rw [e]; rfl
    rw [List.length_take, List.length_drop] at hl
    have hij : i < j := by omega
    rw [seg_app (j := i + 1) (by omega) (by omega)] at e
    have hi : i < word.length := by omega
    rw [show i + 1 - i = 1 by omega, List.drop_eq_getElem_cons hi] at e
    have e2 := List.cons.inj e
    have : EndS G word fd [c] i (i + 1) := .one (by
      unfold stpS
      rw [if_neg hn]
      exact ⟨by rw [List.getElem?_eq_getElem hi, e2.1], rfl⟩)
    have r := ih (i + 1) j (by omega) h2 (by simpa using e2.2)
    exact this.app r
  | @hd h p u s w hp _ _ ih1 ih2 =>
    intro i j h1 h2 e
    have hl : ((word.drop i).take (j - i)).length = u.length + w.length := by rw [e, List.length_append]
    rw [List.length_take, List.length_drop] at hl
    have hk : i + u.length ≤ j := by omega
    rw [seg_app (j := i + u.length) (by omega) hk] at e
    obtain ⟨e1, e2⟩ := List.append_inj e (by rw [List.length_take, List.length_drop]; omega)
    have a := ih1 i (i + u.length) (by omega) (by omega) e1
    have b := ih2 (i + u.length) j hk h2 e2
    have : EndS G word fd [h] i (i + u.length) := .one (by
      unfold stpS
      rw [if_pos (rs_head hp)]
      exact ⟨hc h (rs_head hp) p hp _ _ a, by omega, by omega⟩)
    exact this.app b
theorem span_all {G : Gm} {word : Wo} {fd : Sp3 → Prop} (hc : ∀ h ∈ hds G, ∀ p ∈ rs G h, ∀ i j, EndS G word fd p i j → fd (h, i, j)) {t : Sp3} (h : Span G word t) : fd t := by
  obtain ⟨h1, h2, h3, g⟩ := h
  obtain ⟨p, hp, g⟩ := g.of_one h1
  exact hc _ h1 p hp _ _ (g.found hc _ _ h2 h3 rfl)
theorem EndS.mono {G : Gm} {word : Wo} {fd fd' : Sp3 → Prop} (hf : ∀ t, fd t → fd' t) {s : Wo} {i j : Nat} (h : EndS G word fd s i j) : EndS G word fd' s i j := by
  induction h with
  | nil h => exact .nil h
  | snoc _ b ih =>
    refine .snoc ih ?_
    unfold stpS at *
    split
    · rename_i hn; rw [if_pos hn] at b; exact ⟨hf _ b.1, b.2⟩
    · rename_i hn; rw [if_neg hn] at b; exact b
/-- all spans that there may be -/
def univ (H : List Nat) (n : Nat) : List Sp3 := H.flatMap fun h => (List.range (n + 1)).flatMap fun i => (List.range (n + 1 - i)).map fun k => (h, i, i + k)
theorem univ_mem {H : List Nat} {n h i j : Nat} (hh : h ∈ H) (h1 : i ≤ j) (h2 : j ≤ n) : (h, i, j) ∈ univ H n := by
  refine List.mem_flatMap.mpr ⟨h, hh, List.mem_flatMap.mpr ⟨i, List.mem_range.mpr (by omega), List.mem_map.mpr ⟨j - i, List.mem_range.mpr (by omega), ?_⟩⟩⟩
  rw [show i + (j - i) = j by omega]
def tri (n : Nat) : Nat := ((List.range (n + 1)).map fun i => n + 1 - i).sum
theorem univ_len (H : List Nat) (n : Nat) : (univ H n).length = H.length * tri n := by
  unfold univ
  rw [List.length_flatMap]
  have e : ∀ h : Nat, ((List.range (n + 1)).flatMap fun i => (List.range (n + 1 - i)).map fun k => ((h, i, i + k) : Sp3)).length = tri n := fun h => by
    rw [List.length_flatMap]
    unfold tri
    congr 1
    apply List.map_congr_left
    intro i _
    rw [List.length_map, List.length_range]
  simp only [e]
  induction H with
  | nil => simp
  | cons a H ih => rw [List.map_cons, List.sum_cons, ih, List.length_cons, Nat.succ_mul]; omega
theorem tri_mono {n m : Nat} (h : n ≤ m) (hm : m ≤ 12) : tri n ≤ tri m := by
  have : ∀ m, m ≤ 12 → ∀ n, n ≤ m → tri n ≤ tri m := by decide
  exact this m hm n h
end PW

set_option Elab.async false
set_option linter.all false
set_option autoImplicit false
set_option maxRecDepth 100000
set_option maxHeartbeats 4000000
set_option synthInstance.maxHeartbeats 2000000
set_option synthInstance.maxSize 1000000
set_option exponentiation.threshold 5000
namespace PW
open PySem PySem.Spec PyProof.Rows L2
local macro_rules | `(tactic| walk_at "sta") => `(tactic| with_reducible repeat (first | exact StaR.z | apply StaR.c | apply StaR.n))
local macro_rules | `(tactic| walk_at "start") => `(tactic| with_reducible first | refine LF2 (by walk_at "sta") ?_ | refine LF1 (by walk_at "sta") ?_ | refine LF3 (by walk_at "sta") ?_ | refine LF4 (by walk_at "sta") ?_ | refine LF0 (by walk_at "sta") ?_ | refine LF5 (by walk_at "sta") ?_ | refine LF6 (by walk_at "sta") ?_ | refine LP0 (by walk_at "sta") ?_ | refine LP1 (by walk_at "sta") ?_ | refine LP2 (by walk_at "sta") ?_ | refine LP3 (by walk_at "sta") ?_)

/-- the answer, what is due -/
def Sam : Nat → D → D → Prop
  | 0, _, _ => False
  | n + 1, a, b => match a, b with
    | .dct t kd, .dct t' kd' => kd.length = kd'.length ∧ kd'.length < 16777216 ∧ ∀ p ∈ kd', keyOk t p.1 = true ∧ keyOk t' p.1 = true ∧ ∃ v v', lookD kd p.1 = some v ∧ lookD kd' p.1 = some v' ∧ Sam n v v'
    | .lst l, .lst l' => l.length = l'.length ∧ l.length < 16777216 ∧ ∀ (i : Nat) (x y : D), l[i]? = some x → l'[i]? = some y → Sam n x y
    | .tup l, .tup l' => l.length = l'.length ∧ l.length < 16777216 ∧ ∀ (i : Nat) (x y : D), l[i]? = some x → l'[i]? = some y → Sam n x y
    | .non, .non => True
    | .bl x, .bl y => x = y
    | .int x, .int y => x = y
    | .str x, .str y => x = y
    | _, _ => False
def f__law_same2 (n : Nat) : D → D → (B → Prop) → Prop := fun a b P => Sam n a b ∧ P (.dat (.bl true))
def cpB (d : D) : B := match d with
  | .dct t l => .own (.dct t l)
  | .lst l => .own (.lst l)
  | d => .dat d
theorem cpB_d (d : D) : (cpB d).d = d := by cases d <;> rfl
instance {d : D} : DtC (cpB d) d := ⟨cpB_d d⟩
/-- data of so many storeys, dicts with keys apart -/
def Cpy : Nat → D → Prop
  | 0, _ => False
  | n + 1, d => match d with
    | .dct t kd => t = false ∧ kd.length < 16777216 ∧ (∀ p ∈ kd, keyOk false p.1 = true ∧ Cpy n p.2) ∧ kd.Pairwise fun p q => eqD p.1 q.1 = false
    | .lst l => l.length < 16777216 ∧ ∀ x ∈ l, Cpy n x
    | .tup l => l.length < 16777216 ∧ ∀ x ∈ l, Cpy n x
    | .scr _ => False
    | _ => True
def f__law_copied (n : Nat) : D → (B → Prop) → Prop := fun a P => Cpy n a ∧ P (cpB a)
/-- each once, the first of those alike -/
def df {α : Type} [DecidableEq α] : List α → List α → List α
  | acc, [] => acc
  | acc, x :: l => df (if x ∈ acc then acc else acc ++ [x]) l
def f__law_different : D → (B → Prop) → Prop := fun a P => ∃ (α : Type) (_ : DecidableEq α) (f : α → D) (l : List α), a = .lst (l.map f) ∧ (∀ x y, eqD (f x) (f y) = true ↔ x = y) ∧ l.length < 16777216 ∧ ((∀ x ∈ l, flatD (f x) = true) ∨ ∃ n : Nat, n ≤ 63 ∧ ∀ x ∈ l, okN n (f x)) ∧ P (.own (.lst ((df [] l).map f)))
def N__law_same2 : Nat := 4
-- 0:answer 1:due 2:key 3:k
def w__law_same2 (self : FS) : WS :=
  (sSeq (sIf (wTst (wUn (wIsi "dict") (oV 1))) (sSeq (sIf (wOr (wNot (wTst (wUn (wIsi "dict") (oV 0)))) (wTst (wOp wNe (oE (wUn wLen (oV 0))) (oE (wUn wLen (oV 1)))))) (sRet (wC (.bl false))) sNext)
  (sRet (wUn wAll (oE (wLc (iS (wV 1)) (gN 2) wYes (wAndV (wOp wIn (oV 2) (oV 0)) (wCall self (aC (wOp wIx (oV 0) (oV 2)) (aC (wOp wIx (oV 1) (oV 2)) aN)))) [2]))))) sNext)
  (sSeq (sIf (wOr (wTst (wUn (wIsi "list") (oV 1))) (wTst (wUn (wIsi "tuple") (oV 1)))) (sSeq (sIf (wOr (wTst (wOp wNe (oE (wUn (wIsi "list") (oV 1))) (oE (wUn (wIsi "list") (oV 0))))) (wTst (wOp wNe (oE (wUn (wIsi "tuple") (oV 1))) (oE (wUn (wIsi "tuple") (oV 0)))))) (sRet (wC (.bl false))) sNext)
  (sRet (wAndV (wOp wEq (oE (wUn wLen (oV 0))) (oE (wUn wLen (oV 1)))) (wUn wAll (oE (wLc (iR1 (wUn wLen (oV 1))) (gN 3) wYes (wCall self (aC (wOp wIx (oV 0) (oV 3)) (aC (wOp wIx (oV 1) (oV 3)) aN))) [3])))))) sNext)
  (sSeq (sIf (wTst (wUn (wIsi "str") (oV 1))) (sRet (wAndV (wUn (wIsi "str") (oV 0)) (wOp wEq (oV 0) (oV 1)))) sNext)
  (sSeq (sIf (wOr (wTst (wOp wIsN (oV 1) (oE (wC .non)))) (wOr (wTst (wOp wIsB (oV 1) (oE (wC (.bl true))))) (wTst (wOp wIsB (oV 1) (oE (wC (.bl false))))))) (sRet (wOrV (wAndV (wOp wIsN (oV 1) (oE (wC .non))) (wOp wIsN (oV 0) (oE (wC .non)))) (wOrV (wAndV (wOp wIsB (oV 1) (oE (wC (.bl true)))) (wOp wIsB (oV 0) (oE (wC (.bl true))))) (wAndV (wOp wIsB (oV 1) (oE (wC (.bl false)))) (wOp wIsB (oV 0) (oE (wC (.bl false)))))))) sNext)
  (sRet (wAndV (wUn (wIsi "int") (oV 0)) (wAndV (wNotV (wUn (wIsi "bool") (oV 0))) (wOp wEq (oV 0) (oV 1)))))))))
def N__law_copied : Nat := 4
-- 0:value 1:found 2:key 3:one
def w__law_copied (self : FS) : WS :=
  (sSeq (sIf (wTst (wUn (wIsi "dict") (oV 0))) (sSeq (sSet 1 (wDct0 false))
  (sSeq (sFor (iS (wV 0)) (gN 2) (sSub 1 (wV 2) (wCall self (aC (wOp wIx (oV 0) (oV 2)) aN))))
  (sRet (wM 1)))) sNext)
  (sSeq (sIf (wTst (wUn (wIsi "list") (oV 0))) (sRet (wLc (iS (wV 0)) (gN 3) wYes (wCall self (aC (wV 3) aN)) [3])) sNext)
  (sSeq (sIf (wTst (wUn (wIsi "tuple") (oV 0))) (sRet (wUn wTuple (oE (wLc (iS (wV 0)) (gN 3) wYes (wCall self (aC (wV 3) aN)) [3])))) sNext)
  (sRet (wM 0)))))
def N__law_different : Nat := 3
-- 0:items 1:found 2:item
def w__law_different : WS :=
  (sSeq (sSet 1 (wLst aN))
  (sSeq (sFor (iS (wV 0)) (gN 2) (sIf (wTst (wOp wNin (oV 2) (oV 1))) (sExpr (wMut1 "list" 1 mAppend (wV 2))) sNext))
  (sRet (wM 1))))
section
variable {P : B → Prop} {R : Prop} {n : Int} {s : List Nat} {l : List D} {k t : Bool} {kd : List (D × D)}
instance [e : Ev (P (.dat (.bl false))) R] : Ev (wIsB (.int n) (.bl k) P) R := ⟨fun h => ⟨rfl, e.h h⟩⟩
instance [e : Ev (P (.dat (.bl false))) R] : Ev (wIsB (.str s) (.bl k) P) R := ⟨fun h => ⟨rfl, e.h h⟩⟩
instance [e : Ev (P (.dat (.bl false))) R] : Ev (wIsB (.lst l) (.bl k) P) R := ⟨fun h => ⟨rfl, e.h h⟩⟩
instance [e : Ev (P (.dat (.bl false))) R] : Ev (wIsB (.tup l) (.bl k) P) R := ⟨fun h => ⟨rfl, e.h h⟩⟩
instance [e : Ev (P (.dat (.bl false))) R] : Ev (wIsB .non (.bl k) P) R := ⟨fun h => ⟨rfl, e.h h⟩⟩
instance [e : Ev (P (.dat (.bl false))) R] : Ev (wIsB (.dct t kd) (.bl k) P) R := ⟨fun h => ⟨rfl, e.h h⟩⟩
instance (priority := 2000) [e : Ev (P (.dat (.bl true))) R] : Ev (wIsB (.bl true) (.bl true) P) R := ⟨fun h => ⟨rfl, e.h h⟩⟩
instance (priority := 2000) [e : Ev (P (.dat (.bl false))) R] : Ev (wIsB (.bl true) (.bl false) P) R := ⟨fun h => ⟨rfl, e.h h⟩⟩
instance (priority := 2000) [e : Ev (P (.dat (.bl false))) R] : Ev (wIsB (.bl false) (.bl true) P) R := ⟨fun h => ⟨rfl, e.h h⟩⟩
instance (priority := 2000) [e : Ev (P (.dat (.bl true))) R] : Ev (wIsB (.bl false) (.bl false) P) R := ⟨fun h => ⟨rfl, e.h h⟩⟩
instance [e : Ev (P (.dat (.bl true))) R] : Ev (wNotB (.int n) (.bl k) P) R := ⟨fun h => ⟨rfl, e.h h⟩⟩
instance [e : Ev (P (.dat (.bl true))) R] : Ev (wNotB (.str s) (.bl k) P) R := ⟨fun h => ⟨rfl, e.h h⟩⟩
instance [e : Ev (P (.dat (.bl true))) R] : Ev (wNotB (.lst l) (.bl k) P) R := ⟨fun h => ⟨rfl, e.h h⟩⟩
instance [e : Ev (P (.dat (.bl true))) R] : Ev (wNotB (.tup l) (.bl k) P) R := ⟨fun h => ⟨rfl, e.h h⟩⟩
instance [e : Ev (P (.dat (.bl true))) R] : Ev (wNotB .non (.bl k) P) R := ⟨fun h => ⟨rfl, e.h h⟩⟩
instance [e : Ev (P (.dat (.bl true))) R] : Ev (wNotB (.dct t kd) (.bl k) P) R := ⟨fun h => ⟨rfl, e.h h⟩⟩
instance (priority := 2000) [e : Ev (P (.dat (.bl false))) R] : Ev (wNotB (.bl true) (.bl true) P) R := ⟨fun h => ⟨rfl, e.h h⟩⟩
instance (priority := 2000) [e : Ev (P (.dat (.bl true))) R] : Ev (wNotB (.bl true) (.bl false) P) R := ⟨fun h => ⟨rfl, e.h h⟩⟩
instance (priority := 2000) [e : Ev (P (.dat (.bl true))) R] : Ev (wNotB (.bl false) (.bl true) P) R := ⟨fun h => ⟨rfl, e.h h⟩⟩
instance (priority := 2000) [e : Ev (P (.dat (.bl false))) R] : Ev (wNotB (.bl false) (.bl false) P) R := ⟨fun h => ⟨rfl, e.h h⟩⟩
end
theorem rec0__law_same2 : ∀ ds Pp, fs2 (f__law_same2 0) ds Pp → False := fun ds Pp ⟨a, b, _, h, _⟩ => h
theorem law__law_same2 (n : Nat) : ∀ a b Pp, f__law_same2 (n + 1) a b Pp → LF N__law_same2 (w__law_same2 (fs2 (f__law_same2 n))) [a, b] Pp := by
  rintro a b Pp ⟨hs, k⟩
  unfold N__law_same2 w__law_same2
  walk_at "start"
  unfold Sam at hs
  split at hs
  · rename_i t kd t' kd'
    obtain ⟨hl, h2, hs⟩ := hs
    refine ev_ ?_
    refine x_iteN (fun h => (h (by rw [hl])).elim) (fun _ => ?_)
    refine ev_ ?_
    refine x_lcM' (fun _ => .bl true) (fun i d hi => ?_) ?_
    · rw [List.getElem?_map] at hi
      cases e : kd'[i]? with
      | none => rw [e] at hi; cases hi
      | some p =>
        have hi0 := hi
        rw [e] at hi
        obtain rfl := Option.some.inj hi
        obtain ⟨k1, k2, v, v', l1, l2, s⟩ := hs p (List.mem_of_getElem? e)
        refine ev_ ⟨k1, ?_⟩
        rw [l1]
        refine ev_iteB (fun _ => ⟨k1, v, l1, k2, v', l2, s, ?_⟩) (fun h => by cases h)
        exact yK_c (f := fun _ => .bl true) (d := p.1) (show (kd'.map (·.1))[i]? = some p.1 by rw [List.getElem?_map, e]; rfl) (by rw [List.length_map]; omega) rfl rfl
    · have e : (kd'.map (·.1)).map (fun _ => D.bl true) = (List.replicate kd'.length true).map D.bl := by
        rw [List.map_const', List.length_map, List.map_replicate]
      rw [e]
      refine ev_ ?_
      rw [List.all_eq_true.mpr (fun x hx => by rw [(List.mem_replicate.mp hx).2]; rfl)]
      exact k
  · rename_i l l'
    obtain ⟨hl, h2, hs⟩ := hs
    refine ev_ ?_
    refine x_iteD (fun _ => ev_ ⟨by omega, ?_⟩) (fun h => (h (by rw [hl])).elim)
    refine x_lcM' (fun _ => .bl true) (fun i d hi => ?_) ?_
    · obtain ⟨hlt, rfl⟩ := rng_get hi
      have hlt : i < l'.length := by simpa using hlt
      refine ev_ ⟨l[i], ?_, l'[i]'(by omega), ?_, ?_, ?_⟩
      · rw [Int.zero_add, atI_nat]; exact List.getElem?_eq_getElem _
      · rw [Int.zero_add, atI_nat]; exact List.getElem?_eq_getElem _
      · exact hs i _ _ (List.getElem?_eq_getElem _) (List.getElem?_eq_getElem _)
      · exact yK_c hi (by rw [rng_len]; omega) rfl rfl
    · have e : (rng 0 (Int.toNat (l'.length : Int))).map (fun _ => D.bl true) = (List.replicate l'.length true).map D.bl := by
        rw [List.map_const', rng_len, List.map_replicate]; rfl
      rw [e]
      refine ev_ ?_
      rw [List.all_eq_true.mpr (fun x hx => by rw [(List.mem_replicate.mp hx).2]; rfl)]
      exact k
  · rename_i l l'
    obtain ⟨hl, h2, hs⟩ := hs
    refine ev_ ?_
    refine x_iteD (fun _ => ev_ ⟨by omega, ?_⟩) (fun h => (h (by rw [hl])).elim)
    refine x_lcM' (fun _ => .bl true) (fun i d hi => ?_) ?_
    · obtain ⟨hlt, rfl⟩ := rng_get hi
      have hlt : i < l'.length := by simpa using hlt
      refine ev_ ⟨l[i], ?_, l'[i]'(by omega), ?_, ?_, ?_⟩
      · rw [Int.zero_add, atI_nat]; exact List.getElem?_eq_getElem _
      · rw [Int.zero_add, atI_nat]; exact List.getElem?_eq_getElem _
      · exact hs i _ _ (List.getElem?_eq_getElem _) (List.getElem?_eq_getElem _)
      · exact yK_c hi (by rw [rng_len]; omega) rfl rfl
    · have e : (rng 0 (Int.toNat (l'.length : Int))).map (fun _ => D.bl true) = (List.replicate l'.length true).map D.bl := by
        rw [List.map_const', rng_len, List.map_replicate]; rfl
      rw [e]
      refine ev_ ?_
      rw [List.all_eq_true.mpr (fun x hx => by rw [(List.mem_replicate.mp hx).2]; rfl)]
      exact k
  · exact ev_ k
  · rename_i x y
    subst hs
    cases x
    · exact ev_ k
    · exact ev_ k
  · subst hs
    refine ev_ ?_
    rw [decide_eq_true rfl]; exact k
  · subst hs
    refine ev_ ?_
    rw [decide_eq_true rfl]; exact k
  · exact hs.elim
section
variable {P : B → Prop} {R : Prop} {x y : D} {n : Nat}
instance [e : Ev (P (.dat (.bl true))) R] : Ev (f__law_same2 n x y P) (Sam n x y ∧ R) := ⟨fun h => ⟨h.1, e.h h.2⟩⟩
end
theorem lookD_mem {kd : List (D × D)} (hk : kd.Pairwise fun p q => eqD p.1 q.1 = false) (hself : ∀ p ∈ kd, eqD p.1 p.1 = true) {p : D × D} (hp : p ∈ kd) : lookD kd p.1 = some p.2 := by
  induction kd with
  | nil => cases hp
  | cons q kd ih =>
    obtain ⟨h1, h2⟩ := List.pairwise_cons.mp hk
    unfold lookD
    rw [List.find?_cons]
    rcases List.mem_cons.mp hp with e | e
    · subst e
      rw [hself p List.mem_cons_self]; rfl
    · rw [h1 p e]
      exact ih h2 (fun r hr => hself r (List.mem_cons_of_mem _ hr)) e
theorem eqD_key {d : D} (h : keyOk false d = true) : eqD d d = true := by
  cases d with
  | int i => rw [eqD_int]; exact decide_eq_true rfl
  | str s => rw [eqD_str]; exact decide_eq_true rfl
  | _ => cases h
theorem Cpy.look {n : Nat} {t : Bool} {kd : List (D × D)} (h : Cpy (n + 1) (.dct t kd)) {p : D × D} (hp : p ∈ kd) : lookD kd p.1 = some p.2 :=
  lookD_mem h.2.2.2 (fun q hq => eqD_key (h.2.2.1 q hq).1) hp
theorem sam_self : ∀ {n : Nat} {d : D}, Cpy n d → Sam n d d
  | 0, _, h => h
  | n + 1, d, h => by
    have h0 := h
    unfold Cpy at h
    unfold Sam
    cases d with
    | dct t kd =>
      obtain ⟨rfl, h1, h2, h3⟩ := h
      exact ⟨rfl, h1, fun p hp => ⟨(h2 p hp).1, (h2 p hp).1, p.2, p.2, h0.look hp, h0.look hp, sam_self (h2 p hp).2⟩⟩
    | scr l => exact h.elim
    | lst l => exact ⟨rfl, h.1, fun i x y hx hy => by rw [hx] at hy; cases hy; exact sam_self (h.2 _ (List.mem_of_getElem? hx))⟩
    | tup l => exact ⟨rfl, h.1, fun i x y hx hy => by rw [hx] at hy; cases hy; exact sam_self (h.2 _ (List.mem_of_getElem? hx))⟩
    | non => trivial
    | bl b => rfl
    | int i => rfl
    | str s => rfl
theorem rec0__law_copied : ∀ ds Pp, fs1 (f__law_copied 0) ds Pp → False := fun ds Pp ⟨a, _, h, _⟩ => h
theorem law__law_copied (n : Nat) : ∀ a Pp, f__law_copied (n + 1) a Pp → LF N__law_copied (w__law_copied (fs1 (f__law_copied n))) [a] Pp := by
  rintro a Pp ⟨hs, k⟩
  unfold N__law_copied w__law_copied
  walk_at "start"
  have h0 := hs
  unfold Cpy at hs
  cases a with
  | dct t kd =>
    obtain ⟨rfl, h1, h2, h3⟩ := hs
    refine ev_ ?_
    refine x_forK (fun i E => ∃ z2 z3, E = [some (.dat (.dct false kd)), some (.own (.dct false (kd.take i))), z2, z3]) ⟨_, _, rfl⟩ ?_ ?_
    · rintro i d E hi ⟨z2, z3, rfl⟩
      rw [List.getElem?_map] at hi
      cases e : kd[i]? with
      | none => rw [e] at hi; cases hi
      | some p =>
        rw [e] at hi
        obtain rfl := Option.some.inj hi
        have hp := List.mem_of_getElem? e
        refine ev_ ⟨(h2 p hp).1, p.2, h0.look hp, (h2 p hp).2, ?_⟩
        have hput : putD (kd.take i) p.1 p.2 = kd.take (i + 1) := by
          unfold putD
          rw [if_neg, take_snoc e]
          rw [List.any_eq_true]
          rintro ⟨q, hq, eq⟩
          obtain ⟨j, hj, ej⟩ := List.getElem_of_mem hq
          rw [List.length_take] at hj
          have hi' := (List.getElem?_eq_some_iff.mp e)
          rw [List.getElem_take] at ej
          have := List.pairwise_iff_getElem.mp h3 j i (by omega) hi'.1 (by omega)
          rw [ej, hi'.2, eq] at this
          cases this
        refine ev_ ?_
        refine ⟨(h2 p hp).1, by rw [List.length_take]; omega, ?_⟩
        rw [hput]
        exact ⟨_, _, rfl⟩
    · rintro E ⟨z2, z3, rfl⟩
      rw [List.length_map, List.take_length]
      exact ev_ k
  | lst l =>
    refine ev_ ?_
    refine x_lcM' id (fun i d hi => ?_) ?_
    · have hd := hs.2 d (List.mem_of_getElem? hi)
      refine ev_ ⟨hd, ?_⟩
      have hl := hs.1
      exact yK_c hi (by omega) rfl rfl
    · rw [List.map_id]; exact ev_ k
  | tup l =>
    refine ev_ ?_
    refine x_lcM' id (fun i d hi => ?_) ?_
    · have hd := hs.2 d (List.mem_of_getElem? hi)
      refine ev_ ⟨hd, ?_⟩
      have hl := hs.1
      exact yK_c hi (by omega) rfl rfl
    · rw [List.map_id]; exact ev_ k
  | scr l => exact hs.elim
  | non => exact ev_ k
  | bl b => exact ev_ k
  | int b => exact ev_ k
  | str b => exact ev_ k
theorem df_app {α : Type} [DecidableEq α] (x : α) : ∀ (l acc : List α), df acc (l ++ [x]) = (if x ∈ df acc l then df acc l else df acc l ++ [x])
  | [], acc => rfl
  | y :: l, acc => df_app x l _
theorem df_mem' {α : Type} [DecidableEq α] {x : α} : ∀ {l acc : List α}, x ∈ df acc l ↔ x ∈ acc ∨ x ∈ l
  | [], acc => by simp [df]
  | y :: l, acc => by
    unfold df
    rw [df_mem' (l := l)]
    split
    · rename_i h
      rw [List.mem_cons]
      exact ⟨fun z => z.elim .inl fun z => .inr (.inr z), fun z => z.elim .inl fun z => z.elim (fun e => .inl (e ▸ h)) .inr⟩
    · rw [List.mem_append, List.mem_singleton, List.mem_cons, or_assoc]
theorem df_mem {α : Type} [DecidableEq α] {x : α} {l : List α} : x ∈ df [] l ↔ x ∈ l := by rw [df_mem']; simp
theorem df_nodup' {α : Type} [DecidableEq α] : ∀ {l acc : List α}, acc.Nodup → (df acc l).Nodup
  | [], acc, h => h
  | y :: l, acc, h => by
    unfold df
    refine df_nodup' ?_
    split
    · exact h
    · rename_i hn
      rw [List.nodup_append]
      exact ⟨h, by simp, fun a ha b hb => by rw [List.mem_singleton.mp hb]; rintro rfl; exact hn ha⟩
theorem df_nodup {α : Type} [DecidableEq α] (l : List α) : (df [] l).Nodup := df_nodup' .nil
theorem df_len' {α : Type} [DecidableEq α] : ∀ {l acc : List α}, (df acc l).length ≤ acc.length + l.length
  | [], acc => Nat.le_refl _
  | y :: l, acc => by
    unfold df
    have := df_len' (l := l) (acc := if y ∈ acc then acc else acc ++ [y])
    rw [List.length_cons]
    by_cases h : y ∈ acc
    · rw [if_pos h] at this ⊢; omega
    · rw [if_neg h] at this ⊢; rw [List.length_append, List.length_singleton] at this; omega
theorem df_len {α : Type} [DecidableEq α] (l : List α) : (df [] l).length ≤ l.length := by
  have := df_len' (l := l) (acc := [])
  simpa using this
theorem law__law_different : ∀ a Pp, f__law_different a Pp → LF N__law_different w__law_different [a] Pp := by
  rintro a Pp ⟨α, dec, f, l, rfl, hf, hl, hok, k⟩
  unfold N__law_different w__law_different
  walk_at "start"
  refine ev_ ?_
  refine x_forK (fun i E => ∃ z2, E = [some (.dat (.lst (l.map f))), some (.own (.lst ((df [] (l.take i)).map f))), z2]) ⟨_, rfl⟩ ?_ ?_
  · rintro i d E hi ⟨z2, rfl⟩
    obtain ⟨x, hx, rfl⟩ := map_get hi
    have hxl := List.mem_of_getElem? hx
    have hsub : ∀ y ∈ df [] (l.take i), y ∈ l := fun y hy => List.mem_of_mem_take (df_mem.mp hy)
    have hlen := df_len (l.take i)
    rw [List.length_take] at hlen
    refine ev_ ⟨?_, ?_⟩
    · rcases hok with h | ⟨n, hn, h⟩
      · refine .inl ⟨h x hxl, ?_⟩
        rw [List.all_map, List.all_eq_true]
        exact fun y hy => h y (hsub y hy)
      · refine .inr ⟨(h x hxl).ok (by omega), (okN_lst (n := n) fun d hd => ?_).ok (by omega)⟩
        obtain ⟨y, hy, rfl⟩ := List.mem_map.mp hd
        exact h y (hsub y hy)
    · rw [anyD_map hf]
      refine ev_iteN (fun hn => ?_) (fun hn => ?_)
      · refine ⟨by rw [List.length_map]; omega, some (.dat (f x)), ?_⟩
        rw [take_snoc hx, df_app, if_neg hn, List.map_append]; rfl
      · refine ⟨some (.dat (f x)), ?_⟩
        rw [take_snoc hx, df_app, if_pos hn]
  · rintro E ⟨z2, rfl⟩
    rw [List.length_map, List.take_length]
    exact ev_ k
/-- lists of texts, of numbers -/
theorem f_diff_strs {l : List Wo} {P : B → Prop} (hl : l.length < 16777216) (k : P (.own (.lst ((df [] l).map D.str)))) : f__law_different (.lst (l.map D.str)) P :=
  ⟨Wo, inferInstance, D.str, l, rfl, eqS, hl, .inl fun _ _ => rfl, k⟩
theorem f_diff_ints {l : List Int} {P : B → Prop} (hl : l.length < 16777216) (k : P (.own (.lst ((df [] l).map D.int)))) : f__law_different (.lst (l.map D.int)) P :=
  ⟨Int, inferInstance, D.int, l, rfl, eqI, hl, .inl fun _ _ => rfl, k⟩
end PW

set_option Elab.async false
set_option linter.all false
set_option autoImplicit false
set_option maxRecDepth 100000
set_option maxHeartbeats 4000000
set_option synthInstance.maxHeartbeats 2000000
set_option synthInstance.maxSize 1000000
namespace PW
open PySem PySem.Spec PyProof.Rows L2
/-! ### sorted(d), d with numbers or texts as keys -/
abbrev leK (x y : Key) : Bool := PySem.W.dataLe false (fun k : Key => (kD k).py) x y
def rSortKG : List V → Hp → VK → Prop := fun xs H Q => ∃ (a : Addr) (kv : List (Key × V)), xs = [.ref a] ∧ Rd H a (.dK kv) ∧ (∀ k ∈ kv.map (·.1), okD (kD k) = true) ∧ PySem.W.AllAlike ((kv.map (·.1)).map fun k => (kD k).py) ∧ PySem.W.Sortable ((kv.map (·.1)).map fun k => (kD k).py) ∧
  ∀ p, H p = none → Q (.ref p) (upd H p (.lst (((kv.map (·.1)).mergeSort leK).map kV)))
theorem each_keys : ∀ {us : List Value} {ks : List Key}, PySem.W.EachIs (fun v (k : Key) => RelV (kV k) v) us ks → Vals (ks.map kV) us
  | _, _, .nil => .nil
  | _, _, .cons r t => .cons r (each_keys t)
theorem keys_each : ∀ {us : List Value} {ks : List Key}, us.length = ks.length → (∀ (j : Nat) (v : Value), us[j]? = some v → ∃ k, ks[j]? = some k ∧ RelV (kV k) v) → PySem.W.EachIs (fun v (k : Key) => RelV (kV k) v) us ks
  | [], [], _, _ => .nil
  | [], _ :: _, h, _ => by cases h
  | _ :: _, [], h, _ => by cases h
  | u :: us, k :: ks, h, hv => by
    obtain ⟨k', e, r⟩ := hv 0 u rfl
    cases e
    exact .cons r (keys_each (Nat.succ.inj h) fun j v z => hv (j + 1) v z)
theorem key_reads {h : Heap} {v : Value} {k : Key} (r : RelV (kV k) v) : Reads h v (kD k).py [] := by
  cases k with
  | inl i => obtain ⟨t, rfl⟩ := r; exact .int i t
  | inr x => obtain ⟨t, rfl⟩ := r; show Reads h _ (D.py (.str x.cps.toList)) _; simp only [D.py, mkS_of]; exact .str x t
section
variable {X : Cx}
theorem cr_sortKG (hcalm : X.calm = true) (hu : X.A.units + 70 < cLine) : CallR X (.builtin "sorted") rSortKG := by
  intro pins s σ H xs us Q I r q
  obtain ⟨a, kvs, ex, hd, hok, hal0, hso, q⟩ := q
  subst ex
  rw [Vals.ref1 r]
  obtain ⟨z, lo, vs, rel, dd⟩ := dk_rd I.hok hd
  obtain ⟨ep, hat⟩ := dd.dictAt
  have hkeys : vs.map (·.1) = kvs.map (·.1) := rel.keys.symm
  generalize hks : kvs.map (·.1) = ks at *
  have hl : vs.length = ks.length := by
    have e := congrArg List.length hkeys
    simpa using e
  have h16 : vs.length ≤ sizeLine := by rw [← (show kvs.length = vs.length from Paired.length rel)]; exact z
  refine Calls.call_function_entry PyProof.Rows.kind_sorted PyProof.Rows.plain_sorted PyProof.Rows.entry_sorted (PyProof.Rows.args_sorted1 _) ?_
  unfold Builtin.«sorted»
  refine wpAny_bind (m := checkCount "sorted" 1 1 _) (wpAny_pure ?_)
  refine wpAny_bind (PySem.W.kdu_collect (A := X.A.in1) (PySem.W.kdl_dict (knd := mixKind X.prog X.w) (kvs := vs) (ep := ep) lo) (I.ok.hd hcalm) hat h16 fun h' tk acc hk hacc => ?_)
  have hal : acc.toList.length = ks.length := by rw [Array.length_toList, hacc.1, hl]
  have hE : PySem.W.EachIs (fun v (k : Key) => RelV (kV k) v) acc.toList ks := keys_each hal fun j v e => by
    obtain ⟨k, x, e1, e2⟩ := hacc.2 j v (by rw [← Array.getElem?_toList]; exact e)
    have e3 : (vs.map (·.1))[j]? = some k := by rw [List.getElem?_map, e1]; rfl
    rw [hkeys] at e3
    refine ⟨k, e3, ?_⟩
    cases k with
    | inl i => obtain ⟨t, ev⟩ := Value.isInt_shape (v := v) e2; exact ⟨t, ev⟩
    | inr y => obtain ⟨t, ev⟩ := Value.isStrOf_shape (x := y) (v := v) e2; exact ⟨t, ev⟩
  have I1 : Inv X pins σ H { s with heap := h', toks := tk } := I.kept hk
  refine wpAny_bind (wpAny_newList ?_ (by rw [hal, ← hl]; exact h16))
  have hoL : (h'.push (seqObj "list" acc.toList.toArray 0)).get? h'.objs.size = some (seqObj "list" acc.toList.toArray 0) := Heap.get?_push_size _ rfl
  show wpAny _ _ _ _ _ { s with heap := h'.push (seqObj "list" acc.toList.toArray 0), toks := tk }
  refine wpAny_bind (wpAny_holding (PySem.W.list_sort_data (R := fun v (k : Key) => RelV (kV k) v) (enc := fun k : Key => (kD k).py) (bs := ks) (vs := acc.toList) (s := { s with heap := h'.push (seqObj "list" acc.toList.toArray 0), toks := tk }) hoL hE (hE.mono fun v k r => ⟨[], key_reads r, by simp⟩)
    hal0 hso (by rw [← hl]; exact h16) (fun b hb => ?_) fun out hol heo => ?_))
  · have e1 : X.A.in1.units ≤ X.A.units + 1 := by
      show X.A.in1.units ≤ _
      first | (simp [Around.in1]; done) | (unfold Around.in1; dsimp only; omega)
    have := SeqAt.depth_of_shaped (hok b hb)
    show X.A.in1.units + 1 + (kD b).py.depth < cLine
    omega
  · obtain ⟨c, hc⟩ := PyProof.Rows.sortedHeap_at (vs := acc.toList) (out := out.toArray) hoL
    refine wpAny_pure ⟨_, rfl, .ref h'.objs.size, upd H h'.objs.size (.lst ((ks.mergeSort leK).map kV)), I1.laid (t' := tk) (fun b u e => ?_) (Nat.le_refl _) ⟨?_, out, c, each_keys heo, hc⟩, rfl, q _ (I1.hok.fresh (Nat.le_refl _))⟩
    · have hb : b < h'.objs.size := Heap.lt_size e
      rw [PyProof.Rows.sortedHeap_old (Nat.ne_of_lt hb) (by rw [size_push']; exact Nat.lt_succ_of_lt hb)]
      exact Heap.get?_push_of_some _ e
    · rw [List.length_map, List.length_mergeSort, ← hl]; exact h16
end
def wSortKG (x : D) (Q : B → Prop) : Prop := match x with
  | .dct false kd => sortOk (kd.map (·.1)) ∧ Q (.own (.lst ((kd.map (·.1)).mergeSort leD)))
  | _ => False
section
variable {K : PySem.W.Frag}
theorem keys_repl {F : Hp} : ∀ ks : List Key, RepL K F (ks.map kV) (ks.map kD)
  | [] => .nil
  | k :: ks => .cons (by
      cases k with
      | inl i => exact .int i
      | inr x => have := Rep.str (K := K) (F := F) x.cps.toList; rw [mkS_of] at this; exact this) (keys_repl ks)
theorem k_sortKG : Op1Ok K (fun x H Q => rSortKG [x] H Q) wSortKG := by
  intro O G F σ H E x dx Q Q' r hx q k
  cases dx with
  | dct t kd =>
    cases t with
    | false =>
      obtain ⟨⟨o1, al, so⟩, q⟩ := (show sortOk (kd.map (·.1)) ∧ Q (.own (.lst ((kd.map (·.1)).mergeSort leD))) from q)
      obtain ⟨a, kv, ea, h, rk⟩ := hx.dK r.f
      subst ea
      have ek : kd.map (·.1) = (kv.map (·.1)).map kD := by rw [rk.fst, List.map_map]; rfl
      rw [ek] at o1 al so q
      refine ⟨a, kv, rfl, h, fun c hc => o1 _ (List.mem_map_of_mem hc), by rw [List.map_map] at al; exact al, by rw [List.map_map] at so; exact so, fun p hp => ?_⟩
      refine k _ _ (.lst r hp (keys_repl _) ?_)
      have e : ((kv.map (·.1)).mergeSort leK).map kD = ((kv.map (·.1)).map kD).mergeSort leD := List.map_mergeSort fun a _ b _ => rfl
      rw [e]
      exact q
    | true => exact (show False from q).elim
  | _ => exact (show False from q).elim
end
section
variable {P : B → Prop} {kd : List (D × D)} {R : Prop}
instance [e : Ev (P (.own (.lst ((kd.map (·.1)).mergeSort leD)))) R] : Ev (wSortKG (.dct false kd) P) (sortOk (kd.map (·.1)) ∧ R) := ⟨fun h => ⟨h.1, e.h h.2⟩⟩
end
theorem sortOk_ints (l : List Int) : sortOk (l.map D.int) := by
  refine ⟨fun d hd => ?_, ?_, ?_⟩
  · obtain ⟨i, _, rfl⟩ := List.mem_map.mp hd
    exact (okN_int (n := 0) i).ok
  · rw [List.map_map]; exact PySem.W.AllAlike.of fun _ _ => rfl
  · rw [List.map_map]; exact PySem.W.Sortable.others fun _ => ⟨by simp [D.py], by simp [D.py]⟩
theorem leD_int (a b : Int) : leD (.int a) (.int b) = decide (a ≤ b) := by
  have h := congrFun (congrFun (PySem.W.dataLe_int (fun i : Int => i)) a) b
  rw [← h]
  show PySem.W.dataLe false D.py (.int a) (.int b) = _
  rw [PySem.W.dataLe_eq, PySem.W.dataLe_eq]; simp only [D.py]
/-! ### x.setdefault(k, v), x ours -/
def wSetd (i : Nat) (wk wv : WE) : WE := fun E Q => hasE E i ∧ (match E[i]? with | some (some b) => b.mu = true ∧ ∃ kd, b.d = .dct false kd | _ => False) ∧ wk E fun k E1 => wv E1 fun v E2 => match E2[i]? with
  | some (some b) => b.mu = true ∧ ∃ kd, b.d = .dct false kd ∧ keyOk false k.d = true ∧ kd.length < 16777216 ∧ (match lookD kd k.d with
    | some x => Q (.dat x) E2
    | none => Q (.dat v.d) (E2.set i (some (b.put (.dct false (putD kd k.d v.d))))))
  | _ => False
section
variable {K : PySem.W.Frag}
theorem ok_setd {i : Nat} {wk wv : WE} : EOk K (tDSetd (tVar i) (tE K wk) (tE K wv)) (wSetd i wk wv) := fun O G F σ H E Q r0 q => by
  obtain ⟨_, hd, q⟩ := q
  split at hd
  · rename_i b hb
    obtain ⟨hm, kd, ed⟩ := hd
    obtain ⟨a, hv, ho, c, n⟩ := r0.cellAt hb hm
    refine ⟨_, hv, ?_⟩
    rw [ed] at c
    obtain ⟨kv, hc, _⟩ := c
    refine ⟨a, rfl, .inl ⟨kv, .inl hc⟩, ?_⟩
    refine tE_bind r0 q fun y H1 F1 E1 k s1 r1 p1 q1 => ?_
    obtain ⟨F2, s2, r2, p2⟩ := r1.frz p1
    refine tE_bind r2 q1 fun z H3 F3 E3 v s3 r3 p3 q3 => ?_
    obtain ⟨F4, s4, r4, p4⟩ := r3.frz p3
    split at q3
    · rename_i b' hb'
      obtain ⟨hm', kd', ed', hk, hl, q4⟩ := q3
      obtain ⟨a', hv', ho', c', n'⟩ := r4.cellAt hb' hm'
      rw [hv] at hv'; cases hv'
      rw [ed'] at c'
      obtain ⟨kv', hc', rk⟩ := c'
      obtain ⟨key, e1, e2⟩ := (p2.mono (s3.trans s4)).key hk
      subst e2
      refine ⟨kv', key, hc', rfl, by rw [rk.length, line_eq]; exact hl, fun w hw => ?_, fun hn => ?_⟩
      · rcases rk.look key with ⟨h1, _⟩ | ⟨w', d', h1, h2, h3⟩
        · rw [hw] at h1; cases h1
        · rw [hw] at h1; cases h1
          rw [e1, h2] at q4
          exact ⟨F4, E3, .dat d', ((s1.trans s2).trans s3).trans s4, r4, datRR h3, q4⟩
      · rcases rk.look key with ⟨_, h2⟩ | ⟨w', d', h1, _, _⟩
        · rw [e1, h2] at q4
          have r5 := r4.write (u := .dK (L2.putK kv' key z)) (d := .dct false (putD kd' (kD key) v.d)) hb' hv ho' ⟨_, upd_same, (rk.put p4 key)⟩
          exact ⟨F4, _, .dat v.d, ((s1.trans s2).trans s3).trans s4, r5, datRR p4, q4⟩
        · rw [hn] at h1; cases h1
    · exact q3.elim
  · exact hd.elim
end
section
variable {X : Cx} {e f : Expr} {apos cpos p : Pos} {y : Str}
theorem ed_setd {i : Nat} {wk wv : WE} (ho : PE X (.Name y p) (tVar i)) (he : ED X e wk) (hf : ED X f wv) (m : M2 X (.Name y p) "setdefault" apos e f cpos := by exact ⟨rfl, rfl, rfl, rfl⟩) : ED X (.Call (.Attribute (.Name y p) "setdefault" apos) [e, f] [] cpos) (wSetd i wk wv) :=
  ed_of (pe_dsetd ho he hf m) ok_setd
end
/-! run -/
def sdK (i : Nat) (k v : B) (E2 : En) (Q : B → En → Prop) : Prop := match E2[i]? with
  | some (some b) => b.mu = true ∧ ∃ kd, b.d = .dct false kd ∧ keyOk false k.d = true ∧ kd.length < 16777216 ∧ (match lookD kd k.d with
    | some x => Q (.dat x) E2
    | none => Q (.dat v.d) (E2.set i (some (b.put (.dct false (putD kd k.d v.d))))))
  | _ => False
section
variable {i : Nat} {wk wv : WE} {E E' : En} {Q : B → En → Prop} {R : Prop} {kd : List (D × D)} {k v : B} {x y : D}
instance [g : AtC E i (.own (.dct false kd))] [e : Ev (wk E fun k E1 => wv E1 fun v E2 => sdK i k v E2 Q) R] : Ev (wSetd i wk wv E Q) R := ⟨fun h => ⟨by unfold hasE; rw [g.h.eq]; trivial, by rw [g.h.eq]; exact ⟨rfl, kd, rfl⟩, e.h h⟩⟩
/-- the key is told or new -/
theorem x_sdK [g : AtC E i (.own (.dct false kd))] [ck : DtC k x] [cv : DtC v y] [s : SetC E i (some (.own (.dct false (putD kd x y)))) E'] (hk : keyOk false x = true) (hl : kd.length < 16777216) (h1 : ∀ d, lookD kd x = some d → Q (.dat d) E) (h2 : lookD kd x = none → Q (.dat y) E') : sdK i k v E Q := by
  unfold sdK
  rw [g.h.eq]
  refine ⟨rfl, kd, rfl, by rw [ck.h]; exact hk, hl, ?_⟩
  rw [ck.h, cv.h]
  cases e : lookD kd x with
  | none =>
    have := s.h.eq
    show Q (.dat y) (E.set i (some (.own (.dct false (putD kd x y)))))
    rw [this]; exact h2 e
  | some d => exact h1 d e
end
end PW

set_option Elab.async false
set_option linter.all false
set_option autoImplicit false
set_option maxRecDepth 100000
set_option maxHeartbeats 4000000
set_option synthInstance.maxHeartbeats 2000000
set_option synthInstance.maxSize 1000000
namespace PW
open PySem PySem.Spec PyProof.Rows L2
/-! ### lots of signs, and grammars, as data -/
theorem eqC (a b : Nat) : eqD (.str [a]) (.str [b]) = true ↔ a = b := by rw [eqS]; simp
theorem sgs_eq (A : List Nat) : sgs A = A.map fun c => D.str [c] := rfl
theorem any_sgs (c : Nat) (A : List Nat) : anyD (.str [c]) (sgs A) = decide (c ∈ A) := (anyD_map (f := fun c : Nat => D.str [c]) eqC c A).trans (decide_eq_decide.mpr Iff.rfl)
theorem flat_sgs (A : List Nat) : (sgs A).all flatD = true := by rw [sgs_eq, List.all_map, List.all_eq_true]; intro _ _; rfl
theorem eqD_sgs (A C : List Nat) : eqD (.lst (sgs A)) (.lst (sgs C)) = decide (A = C) := by rw [eqD_lst]; exact eqDs_dec eqC A C
theorem okN_sgs {A : List Nat} (h : okS A) : okN 1 (.lst (sgs A)) := okN_lst fun d hd => by
  obtain ⟨c, hc, rfl⟩ := List.mem_map.mp hd
  exact okN_str fun x hx => by rw [List.mem_singleton.mp hx]; exact h c hc
theorem sortOk_sgs {A : List Nat} (h : okS A) : sortOk (sgs A) := by
  rw [sgs_strs]
  refine sortOk_strs fun s hs => ?_
  obtain ⟨c, hc, rfl⟩ := List.mem_map.mp hs
  exact fun x hx => by rw [List.mem_singleton.mp hx]; exact h c hc
def srN (A : List Nat) : List Nat := A.mergeSort fun a b => decide (a ≤ b)
theorem leW_one (a b : Nat) : leW [a] [b] = decide (a ≤ b) := by
  rw [leW_dec]
  apply decide_eq_decide.mpr
  rw [List.cons_le_cons_iff]
  constructor
  · rintro (h | ⟨h, _⟩) <;> omega
  · intro h
    rcases Nat.lt_or_eq_of_le h with z | z
    · exact .inl z
    · exact .inr ⟨z, by simp⟩
theorem sort_sgs (A : List Nat) : (sgs A).mergeSort leD = sgs (srN A) := by
  unfold srN
  exact (List.map_mergeSort (f := fun c : Nat => D.str [c]) (r := fun a b => decide (a ≤ b)) (s := leD) (fun a _ b _ => (leW_one a b).symm)).symm
theorem srN_mem {A : List Nat} {x : Nat} : x ∈ srN A ↔ x ∈ A := List.mem_mergeSort
theorem srN_nodup {A : List Nat} (h : A.Nodup) : (srN A).Nodup := (List.mergeSort_perm A _).nodup_iff.mpr h
theorem srN_len (A : List Nat) : (srN A).length = A.length := List.length_mergeSort A
theorem srN_pw (A : List Nat) : (srN A).Pairwise fun a b => a ≤ b := by
  have := List.pairwise_mergeSort (le := fun a b : Nat => decide (a ≤ b)) (fun a b c h h' => by simp at *; omega) (fun a b => by simp; omega) A
  exact this.imp fun h => of_decide_eq_true h
theorem asc_eq {A C : List Nat} (hA : A.Nodup) (hC : C.Nodup) (h : ∀ x, x ∈ A ↔ x ∈ C) (pA : A.Pairwise (· ≤ ·)) (pC : C.Pairwise (· ≤ ·)) : A = C :=
  List.Perm.eq_of_pairwise (fun a b _ _ h1 h2 => Nat.le_antisymm h1 h2) pA pC ((List.perm_ext_iff_of_nodup hA hC).mpr h)
theorem srN_eq {A C : List Nat} (hA : A.Nodup) (hC : C.Nodup) (h : ∀ x, x ∈ A ↔ x ∈ C) : srN A = srN C :=
  asc_eq (srN_nodup hA) (srN_nodup hC) (fun x => by rw [srN_mem, srN_mem]; exact h x) (srN_pw A) (srN_pw C)
/-- sorted(set(..)) of signs -/
def ssN (A : List Nat) : List Nat := srN (df [] A)
theorem ssN_mem {A : List Nat} {x : Nat} : x ∈ ssN A ↔ x ∈ A := by unfold ssN; rw [srN_mem, df_mem]
theorem ssN_nodup (A : List Nat) : (ssN A).Nodup := srN_nodup (df_nodup A)
theorem ssN_pw (A : List Nat) : (ssN A).Pairwise fun a b => a ≤ b := srN_pw _
theorem setSort_sgs {A : List Nat} {m : List D} (h : SetSort (sgs A) m) : m = sgs (ssN A) := by
  rw [sgs_strs] at h
  rw [setSort_strs h, sgs_strs]
  congr 1
  refine srt_eq (sset_nodup _) ?_ (fun x => ?_) (sset_pw _) ?_
  · refine List.Pairwise.map _ (fun a b hne e => hne ?_) (ssN_nodup A)
    exact (List.cons.inj e).1
  · rw [sset_mem, List.mem_map, List.mem_map]
    exact ⟨fun ⟨y, hy, e⟩ => ⟨y, ssN_mem.mpr hy, e⟩, fun ⟨y, hy, e⟩ => ⟨y, ssN_mem.mp hy, e⟩⟩
  · exact List.Pairwise.map _ (fun a b h => by rw [leW_one]; exact decide_eq_true h) (ssN_pw A)
theorem sset_sgs (A : List Nat) : (sset (A.map fun c => [c])) = (ssN A).map fun c => [c] := by
  have h : SetSort (sgs A) ((sset (A.map fun c => [c])).map D.str) := by
    refine ⟨List.Pairwise.map _ (fun a b hne e => hne (str_inj e)) (sset_nodup _), fun d => ?_, List.Pairwise.map _ (fun a b h => h) (sset_pw _)⟩
    rw [sgs_strs, List.mem_map, List.mem_map]
    exact ⟨fun ⟨y, hy, e⟩ => ⟨y, sset_mem.mp hy, e⟩, fun ⟨y, hy, e⟩ => ⟨y, sset_mem.mpr hy, e⟩⟩
  have e := setSort_sgs h
  rw [sgs_strs] at e
  exact List.map_inj_right (fun a b h => str_inj h) |>.mp e
abbrev gmW (G : Gm) : List (Wo × List Wo) := G.map fun p => ([p.1], p.2)
def gD (G : Gm) : D := .dct false (kdD rowD (gmW G))
theorem lk_gW (c : Nat) : ∀ G : Gm, lk (gmW G) [c] = rl G c
  | [] => rfl
  | p :: G => by
    have ih := lk_gW c G
    unfold lk rl gmW at *
    rw [List.map_cons, List.find?_cons, List.find?_cons]
    have e : decide (([p.1] : Wo) = [c]) = decide (p.1 = c) := decide_eq_decide.mpr (by simp)
    rw [e]
    cases decide (p.1 = c) with
    | true => rfl
    | false => exact ih
theorem look_gD (G : Gm) (c : Nat) : lookD (kdD rowD (gmW G)) (.str [c]) = (rl G c).map rowD := by rw [lookD_kdD, lk_gW]
theorem look_at {G : Gm} {c : Nat} (h : c ∈ hds G) : lookD (kdD rowD (gmW G)) (.str [c]) = some (rowD (rs G c)) := by rw [look_gD, rl_at h]; rfl
theorem in_gD (G : Gm) (c : Nat) : (lookD (kdD rowD (gmW G)) (.str [c])).isSome = decide (c ∈ hds G) := by rw [look_gD, Option.isSome_map, rl_is]
theorem keys_gD (G : Gm) : (kdD rowD (gmW G)).map (·.1) = sgs (hds G) := by
  rw [kdD_keys, sgs_strs]
  unfold gmW hds
  rw [List.map_map, List.map_map, List.map_map, List.map_map]; rfl
theorem keys_gD' (G : Gm) : (kdD rowD (gmW G)).map (·.1) = ((hds G).map fun c => [c]).map D.str := by rw [keys_gD, sgs_strs]
theorem len_gD (G : Gm) : (kdD rowD (gmW G)).length = G.length := by rw [kdD_len]; unfold gmW; rw [List.length_map]
/-- heads in order -/
def sh (G : Gm) : List Nat := srN (hds G)
theorem sort_gD (G : Gm) : (((hds G).map fun c => [c]).map D.str).mergeSort leD = sgs (sh G) := by rw [← sgs_strs, sort_sgs]; rfl
/-- what the walks ask of a grammar -/
structure GW (G : Gm) : Prop where
  nd : (hds G).Nodup
  few : G.length ≤ 4
  up : ∀ c ∈ hds G, 65 ≤ c ∧ c ≤ 90
  rul : ∀ h, ∀ p ∈ rs G h, p.length ≤ 3 ∧ okS p
  num : ∀ h, (rs G h).length ≤ 4
theorem GW.sh_mem {G : Gm} {x : Nat} : x ∈ sh G ↔ x ∈ hds G := srN_mem
theorem GW.hl {G : Gm} (h : GW G) : (hds G).length ≤ 4 := by unfold hds; rw [List.length_map]; exact h.few
theorem GW.shl {G : Gm} (h : GW G) : (sh G).length ≤ 4 := by unfold sh; rw [srN_len]; exact h.hl
theorem GW.okH {G : Gm} (h : GW G) {A : List Nat} (hA : ∀ c ∈ A, c ∈ hds G) : okS A := fun c hc => by have := h.up c (hA c hc); omega
/-- signs are heads, a or b -/
structure GL (G : Gm) : Prop extends GW G where
  ab : ∀ h, ∀ p ∈ rs G h, ∀ c ∈ p, c ∈ hds G ∨ c = 97 ∨ c = 98
theorem lowL_mem {c : Nat} : c ∈ lowL ↔ 97 ≤ c ∧ c ≤ 122 := by
  unfold lowL
  rw [List.mem_map]
  constructor
  · rintro ⟨i, hi, rfl⟩
    have := List.mem_range.mp hi
    omega
  · intro h
    exact ⟨c - 97, List.mem_range.mpr (by omega), by omega⟩
theorem upL_mem {c : Nat} : c ∈ upL ↔ 65 ≤ c ∧ c ≤ 90 := by
  unfold upL
  rw [List.mem_map]
  constructor
  · rintro ⟨i, hi, rfl⟩
    have := List.mem_range.mp hi
    omega
  · intro h
    exact ⟨c - 65, List.mem_range.mpr (by omega), by omega⟩
theorem GL.low {G : Gm} (h : GL G) {x : Nat} {p : Wo} (hp : p ∈ rs G x) {c : Nat} (hc : c ∈ p) : c ∈ lowL ↔ c ∉ hds G := by
  rw [lowL_mem]
  constructor
  · intro h1 h2
    have := h.up c h2; omega
  · intro h1
    rcases h.ab x p hp c hc with z | z | z
    · exact (h1 z).elim
    · omega
    · omega
end PW

set_option Elab.async false
set_option linter.all false
set_option autoImplicit false
set_option maxRecDepth 100000
set_option maxHeartbeats 4000000
set_option synthInstance.maxHeartbeats 2000000
set_option synthInstance.maxSize 1000000
set_option exponentiation.threshold 5000
namespace PW
open PySem PySem.Spec PyProof.Rows L2
local macro_rules | `(tactic| walk_at "sta") => `(tactic| with_reducible repeat (first | exact StaR.z | apply StaR.c | apply StaR.n))
local macro_rules | `(tactic| walk_at "start") => `(tactic| with_reducible first | refine LF2 (by walk_at "sta") ?_ | refine LF1 (by walk_at "sta") ?_ | refine LF3 (by walk_at "sta") ?_ | refine LF4 (by walk_at "sta") ?_ | refine LF0 (by walk_at "sta") ?_ | refine LF5 (by walk_at "sta") ?_ | refine LF6 (by walk_at "sta") ?_ | refine LP0 (by walk_at "sta") ?_ | refine LP1 (by walk_at "sta") ?_ | refine LP2 (by walk_at "sta") ?_ | refine LP3 (by walk_at "sta") ?_ | refine LL1_0 (by walk_at "sta") ?_ | refine LL2_0 (by walk_at "sta") ?_ | refine LL2_1 (by walk_at "sta") ?_ | refine LL3_0 (by walk_at "sta") ?_ | refine LL3_1 (by walk_at "sta") ?_ | refine LL3_2 (by walk_at "sta") ?_ | refine LL4_0 (by walk_at "sta") ?_ | refine LL4_1 (by walk_at "sta") ?_ | refine LL4_2 (by walk_at "sta") ?_ | refine LL4_3 (by walk_at "sta") ?_ | refine LL5_0 (by walk_at "sta") ?_ | refine LL5_1 (by walk_at "sta") ?_ | refine LL5_2 (by walk_at "sta") ?_ | refine LL5_3 (by walk_at "sta") ?_ | refine LL5_4 (by walk_at "sta") ?_)
/-! ### fruitful and bare heads: what the defs promise -/
def clo (G : Gm) (gs : Wo) : List Nat := cl G (fun c => decide (c ∈ gs)) (sh G)
def frt (G : Gm) : List Nat := clo G lowL
def bar (G : Gm) : List Nat := clo G []
def f_has_sprout : D → D → D → (B → Prop) → Prop := fun t a g P => ∃ (L : List Wo) (A : List Nat) (gs : Wo), t = rowD L ∧ a = .lst (sgs A) ∧ g = .str gs ∧ L.length ≤ 10 ∧ (∀ p ∈ L, p.length ≤ 10) ∧ P (.dat (.bl (hasS L A fun c => decide (c ∈ gs))))
def f_closed : D → D → (B → Prop) → Prop := fun g s P => ∃ (G : Gm) (gs : Wo), g = gD G ∧ s = .str gs ∧ GW G ∧ P (.own (.lst (sgs (clo G gs))))
def f_fruitful : D → (B → Prop) → Prop := fun g P => ∃ G : Gm, g = gD G ∧ GW G ∧ P (.own (.lst (sgs (frt G))))
def f_bare : D → (B → Prop) → Prop := fun g P => ∃ G : Gm, g = gD G ∧ GW G ∧ P (.own (.lst (sgs (bar G))))
def f__law_fruitful : D → (B → Prop) → Prop := fun g P => ∃ G : Gm, g = gD G ∧ GL G ∧ P (.own (.lst (sgs (frt G))))
def f__law_bare : D → (B → Prop) → Prop := fun g P => ∃ G : Gm, g = gD G ∧ GW G ∧ P (.own (.lst (sgs (bar G))))

def N_has_sprout : Nat := 5
-- 0:told 1:found 2:good 3:sign 4:sprout
def w_has_sprout : WS :=
  (sRet (wUn wAny (oE (wLc (iS (wV 0)) (gN 4) wYes (wUn wAll (oE (wLc (iS (wV 4)) (gN 3) wYes (wOrV (wOp wIn (oV 3) (oV 1)) (wOp wIn (oV 3) (oV 2))) [3]))) [4]))))
def N_closed : Nat := 6
-- 0:grammar 1:good 2:found 3:grown 4:new 5:head
def w_closed : WS :=
  (sSeq (sSet 2 (wLst aN))
  (sSeq (sSet 3 (wC (.bl true)))
  (sSeq (sWhile (wTru (oV 3)) (sSeq (sSet 4 (wLc (iS (wUn wSortK (oV 0))) (gN 5) (wAnd (wTst (wOp wNin (oV 5) (oV 2))) (wTst (wCallL 2 (fs3 f_has_sprout) [(wOp wIx (oV 0) (oV 5))] (aC (wV 1) aN)))) (wV 5) [5]))
  (sSeq (sExpr (wMut1 "list" 2 mExtend (wV 4)))
  (sSet 3 (wOp wNe (oV 4) (oE (wLst aN)))))))
  (sRet (wUn wSorted (oV 2))))))
def N_fruitful : Nat := 1
-- 0:grammar
def w_fruitful : WS :=
  (sRet (wCall (fs2 f_closed) (aC (wV 0) (aC (wC (.str lowL)) aN))))
def N_bare : Nat := 1
-- 0:grammar
def w_bare : WS :=
  (sRet (wCall (fs2 f_closed) (aC (wV 0) (aC (wC (.str [])) aN))))
def N__law_fruitful : Nat := 6
-- 0:grammar 1:found 2:turn 3:head 4:sign 5:sprout
def w__law_fruitful : WS :=
  (sSeq (sSet 1 (wLst aN))
  (sSeq (sFor (iR1 (wUn wLen (oV 0))) (gN 2) (sSet 1 (wLc (iS (wUn wSortK (oV 0))) (gN 3) (wTst (wUn wAny (oE (wLc (iS (wOp wIx (oV 0) (oV 3))) (gN 5) wYes (wUn wAll (oE (wLc (iS (wV 5)) (gN 4) wYes (wOrV (wOp wNin (oV 4) (oV 0)) (wOp wIn (oV 4) (oV 1))) [4]))) [5])))) (wV 3) [3])))
  (sRet (wM 1))))
def N__law_bare : Nat := 6
-- 0:grammar 1:found 2:turn 3:head 4:sign 5:sprout
def w__law_bare : WS :=
  (sSeq (sSet 1 (wLst aN))
  (sSeq (sFor (iR1 (wUn wLen (oV 0))) (gN 2) (sSet 1 (wLc (iS (wUn wSortK (oV 0))) (gN 3) (wTst (wUn wAny (oE (wLc (iS (wOp wIx (oV 0) (oV 3))) (gN 5) wYes (wUn wAll (oE (wLc (iS (wV 5)) (gN 4) wYes (wOp wIn (oV 4) (oV 1)) [4]))) [5])))) (wV 3) [3])))
  (sRet (wM 1))))
/-- a sign's value by a test -/
def onC (f : Nat → Bool) (d : D) : D := match d with
  | .str [c] => .bl (f c)
  | _ => .non
def onW (f : Wo → Bool) (d : D) : D := match d with
  | .str s => .bl (f s)
  | _ => .non
theorem map_onC (f : Nat → Bool) (s : List Nat) : (s.map fun c => D.str [c]).map (onC f) = (s.map f).map D.bl := by rw [List.map_map, List.map_map]; rfl
theorem map_onW (f : Wo → Bool) (s : List Wo) : (s.map D.str).map (onW f) = (s.map f).map D.bl := by rw [List.map_map, List.map_map]; rfl
theorem all_id {α : Type} (f : α → Bool) (s : List α) : (s.map f).all id = s.all f := by rw [List.all_map]; rfl
theorem any_id {α : Type} (f : α → Bool) (s : List α) : (s.map f).any id = s.any f := by rw [List.any_map]; rfl
theorem law_has_sprout : ∀ p a0 a1 a2 Pp, f_has_sprout a0 a1 a2 Pp → LL N_has_sprout w_has_sprout 1 p a1 [a0] [a2] Pp := by
  rintro p a0 a1 a2 Pp ⟨L, A, gs, rfl, rfl, rfl, hl, hp, k⟩
  unfold N_has_sprout w_has_sprout rowD
  walk_at "start"
  refine ev_ ?_
  refine x_lcM' (onW fun q => q.all fun c => decide (c ∈ A) || decide (c ∈ gs)) (fun i d hi => ?_) ?_
  · obtain ⟨q, hq, rfl⟩ := map_get hi
    have hql := hp q (List.mem_of_getElem? hq)
    refine ev_ ?_
    refine x_lcM' (onC fun c => decide (c ∈ A) || decide (c ∈ gs)) (fun j d hj => ?_) ?_
    · obtain ⟨c, hc, rfl⟩ := map_get hj
      refine ev_ ⟨.inl ⟨rfl, flat_sgs A⟩, ?_⟩
      rw [any_sgs]
      refine ev_ite (fun h => ?_) (fun h => ?_)
      · refine yK_c hj (by rw [List.length_map]; omega) rfl ?_
        show _ = D.bl (decide (c ∈ A) || decide (c ∈ gs))
        rw [decide_eq_true h]; rfl
      · refine yK_c hj (by rw [List.length_map]; omega) rfl ?_
        show _ = D.bl (decide (c ∈ A) || decide (c ∈ gs))
        rw [decide_eq_false h]; rfl
    · rw [map_onC]
      refine ev_ ?_
      rw [all_id]
      exact yK_c hi (by rw [List.length_map]; omega) rfl rfl
  · rw [map_onW]
    refine ev_ ?_
    rw [any_id]
    exact k
theorem clo_mem {G : Gm} {gs : Wo} {x : Nat} : x ∈ clo G gs ↔ Fx G (fun c => decide (c ∈ gs)) x := cl_iff fun _ => GW.sh_mem
theorem kl_pw {H : List Nat} {F : List Nat → Nat → Bool} (h : H.Pairwise (· ≤ ·)) : ∀ n, (kl H F n).Pairwise (· ≤ ·)
  | 0 => .nil
  | n + 1 => h.sublist List.filter_sublist
theorem kl_nd {H : List Nat} {F : List Nat → Nat → Bool} (h : H.Nodup) : ∀ n, (kl H F n).Nodup
  | 0 => .nil
  | n + 1 => h.sublist List.filter_sublist
theorem clo_pw (G : Gm) (gs : Wo) : (clo G gs).Pairwise (· ≤ ·) := kl_pw (srN_pw _) _
theorem clo_nd {G : Gm} (h : GW G) (gs : Wo) : (clo G gs).Nodup := kl_nd (srN_nodup h.nd) _
theorem clo_sub {G : Gm} {gs : Wo} {x : Nat} (h : x ∈ clo G gs) : x ∈ hds G := (clo_mem.mp h).head
theorem clo_len {G : Gm} (h : GW G) (gs : Wo) : (clo G gs).length ≤ 4 := Nat.le_trans (nodup_len (clo_nd h gs) fun _ => clo_sub) h.hl
theorem law_closed : ∀ a0 a1 Pp, f_closed a0 a1 Pp → LF N_closed w_closed [a0, a1] Pp := by
  rintro a0 a1 Pp ⟨G, gs, rfl, rfl, hG, k⟩
  unfold N_closed w_closed gD
  walk_at "start"
  refine ev_ ?_
  have hshl := hG.shl
  refine x_while (fun r E => ∃ (A : List Nat) (b : Bool) (z4 : Option B), A.Nodup ∧ (∀ x ∈ A, Fx G (fun c => decide (c ∈ gs)) x) ∧ (b = false → ∀ h ∈ hds G, stC G (fun c => decide (c ∈ gs)) A h = true → h ∈ A) ∧ r = 2 * (4 - A.length) + (if b = true then 1 else 0) ∧ E = [some (.dat (.dct false (kdD rowD (gmW G)))), some (.dat (.str gs)), some (.own (.lst (sgs A))), some (.dat (.bl b)), z4, none]) _ ⟨[], true, _, .nil, (fun x h => by cases h), (fun h => by cases h), rfl, rfl⟩ ?_
  rintro r E ⟨A, b, z4, nA, sA, cA, rfl, rfl⟩
  have hsub : ∀ x ∈ A, x ∈ hds G := fun x hx => (sA x hx).head
  have hlA := Nat.le_trans (nodup_len nA hsub) hG.hl
  cases b with
  | true =>
    refine ev_ ⟨(hds G).map (fun c => [c]), keys_gD' G, ?_⟩
    rw [sort_gD]
    refine x_lcF' (fun d => match d with | .str [h] => !decide (h ∈ A) && stC G (fun c => decide (c ∈ gs)) A h | _ => false) id (fun i d hi => ?_) ?_
    · obtain ⟨h, hh, rfl⟩ := sgs_get hi
      have hhG := GW.sh_mem.mp (List.mem_of_getElem? hh)
      refine ev_ ⟨.inl ⟨rfl, flat_sgs A⟩, ?_⟩
      rw [any_sgs]
      refine ev_iteN (fun hn => ?_) (fun hn => ?_)
      · refine ⟨rfl, _, look_at hhG, rs G h, A, gs, rfl, rfl, rfl, by have := hG.num h; omega, (fun p hp => by have := (hG.rul h p hp).1; omega), ?_⟩
        refine ev_ ?_
        refine ev_iteB (fun e => ?_) (fun e => ?_)
        · refine yK_c hi (by rw [sgs_len]; omega) ?_ rfl
          show (!decide (h ∈ A) && stC G (fun c => decide (c ∈ gs)) A h) = true
          rw [decide_eq_false hn]; exact e
        · refine nK_c hi ?_
          show (!decide (h ∈ A) && stC G (fun c => decide (c ∈ gs)) A h) = false
          rw [decide_eq_false hn]; exact e
      · refine nK_c hi ?_
        show (!decide (h ∈ A) && stC G (fun c => decide (c ∈ gs)) A h) = false
        rw [decide_eq_true hn]; rfl
    · have e1 : ((sgs (sh G)).filter (fun d => match d with | .str [h] => !decide (h ∈ A) && stC G (fun c => decide (c ∈ gs)) A h | _ => false)).map id = sgs ((sh G).filter fun h => !decide (h ∈ A) && stC G (fun c => decide (c ∈ gs)) A h) := by
        rw [List.map_id, sgs_eq, sgs_eq, List.filter_map]; rfl
      rw [e1]
      have hnw : ∀ h, h ∈ (sh G).filter (fun h => !decide (h ∈ A) && stC G (fun c => decide (c ∈ gs)) A h) ↔ h ∈ hds G ∧ h ∉ A ∧ stC G (fun c => decide (c ∈ gs)) A h = true := fun h => by
        rw [List.mem_filter, Bool.and_eq_true, GW.sh_mem]
        simp
      have nN : ((sh G).filter (fun h => !decide (h ∈ A) && stC G (fun c => decide (c ∈ gs)) A h)).Nodup := (srN_nodup hG.nd).sublist List.filter_sublist
      generalize (sh G).filter (fun h => !decide (h ∈ A) && stC G (fun c => decide (c ∈ gs)) A h) = N at hnw nN
      have hlN := Nat.le_trans (nodup_len nN fun x hx => ((hnw x).mp hx).1) hG.hl
      have okA := (okN_sgs (hG.okH fun c hc => ((hnw c).mp hc).1)).ok
      refine ev_ ⟨by rw [sgs_len, sgs_len]; omega, okA, rfl, ?_⟩
      rw [show D.lst [] = D.lst (sgs []) from rfl, eqD_sgs]
      have nAN : (A ++ N).Nodup := List.nodup_append.mpr ⟨nA, nN, fun a ha b hb e => ((hnw b).mp hb).2.1 (by rw [← e]; exact ha)⟩
      have hsAN : ∀ x ∈ A ++ N, Fx G (fun c => decide (c ∈ gs)) x := fun x hx => by
        rcases List.mem_append.mp hx with z | z
        · exact sA x z
        · have := ((hnw x).mp z).2.2
          unfold stC hasS at this
          obtain ⟨p, hp, e⟩ := List.any_eq_true.mp this
          refine .mk hp fun c hc gc => ?_
          have this : (decide (c ∈ A) || decide (c ∈ gs)) = true := List.all_eq_true.mp e c hc
          rw [show decide (c ∈ gs) = false from gc, Bool.or_false, decide_eq_true_iff] at this
          exact sA c this
      have hlAN := Nat.le_trans (nodup_len nAN fun x hx => (hsAN x hx).head) hG.hl
      rw [List.length_append] at hlAN
      cases N with
      | nil =>
        refine ⟨2 * (4 - A.length), by simp, A, false, _, nA, sA, fun _ h hh e => ?_, rfl, by rw [show sgs ([] : List Nat) = [] from rfl, List.append_nil]; rfl⟩
        by_cases z : h ∈ A
        · exact z
        · exact absurd ((hnw h).mpr ⟨hh, z, e⟩) (by simp)
      | cons a N =>
        rw [List.length_cons] at hlAN
        refine ⟨2 * (4 - (A ++ a :: N).length) + 1, by rw [List.length_append, List.length_cons, if_pos rfl]; omega, A ++ a :: N, true, some (.dat (.lst (sgs (a :: N)))), nAN, hsAN, (fun h => by cases h), rfl, ?_⟩
        rw [show sgs (A ++ a :: N) = sgs A ++ sgs (a :: N) by unfold sgs; rw [List.map_append]]
        rfl
  | false =>
    refine ev_ ?_
    refine ⟨sortOk_sgs (hG.okH hsub), ?_⟩
    rw [sort_sgs]
    have : srN A = clo G gs := by
      rw [srN_eq nA (clo_nd hG gs) fun x => ?_]
      · exact asc_eq (srN_nodup (clo_nd hG gs)) (clo_nd hG gs) (fun x => srN_mem) (srN_pw _) (clo_pw G gs)
      · rw [clo_mem]
        exact ⟨sA x, fun f => f.closed (cA rfl)⟩
    rw [this]
    exact k
theorem law_fruitful : ∀ a0 Pp, f_fruitful a0 Pp → LF N_fruitful w_fruitful [a0] Pp := by
  rintro a0 Pp ⟨G, rfl, hG, k⟩
  unfold N_fruitful w_fruitful
  walk_at "start"
  exact ev_ ⟨G, lowL, rfl, rfl, hG, ev_ k⟩
theorem law_bare : ∀ a0 Pp, f_bare a0 Pp → LF N_bare w_bare [a0] Pp := by
  rintro a0 Pp ⟨G, rfl, hG, k⟩
  unfold N_bare w_bare
  walk_at "start"
  exact ev_ ⟨G, [], rfl, rfl, hG, ev_ k⟩
theorem kl_congr {H : List Nat} {F F' : List Nat → Nat → Bool} (h : ∀ A, ∀ x ∈ H, F A x = F' A x) : ∀ n, kl H F n = kl H F' n
  | 0 => rfl
  | n + 1 => by
    unfold kl
    rw [kl_congr h n]
    exact List.filter_congr fun x hx => h _ x hx
theorem hasS_congr {L : List Wo} {A : List Nat} {g g' : Nat → Bool} (h : ∀ p ∈ L, ∀ c ∈ p, g c = g' c) : hasS L A g = hasS L A g' := by
  unfold hasS
  rw [Bool.eq_iff_iff, List.any_eq_true, List.any_eq_true]
  constructor
  · rintro ⟨p, hp, e⟩
    refine ⟨p, hp, List.all_eq_true.mpr fun c hc => ?_⟩
    rw [← h p hp c hc]; exact List.all_eq_true.mp e c hc
  · rintro ⟨p, hp, e⟩
    refine ⟨p, hp, List.all_eq_true.mpr fun c hc => ?_⟩
    rw [h p hp c hc]; exact List.all_eq_true.mp e c hc
theorem law__law_fruitful : ∀ a0 Pp, f__law_fruitful a0 Pp → LF N__law_fruitful w__law_fruitful [a0] Pp := by
  rintro a0 Pp ⟨G, rfl, hL, k⟩
  have hG := hL.toGW
  unfold N__law_fruitful w__law_fruitful gD
  walk_at "start"
  refine ev_ ?_
  rw [len_gD]
  have hshl := hG.shl
  have hfew := hG.few
  refine ⟨⟨by omega, by omega⟩, ?_⟩
  have hsub : ∀ n, ∀ x ∈ kl (sh G) (stC G fun c => !decide (c ∈ hds G)) n, x ∈ sh G := fun n x hx => by
    cases n with
    | zero => cases hx
    | succ n => exact (List.mem_filter.mp hx).1
  refine x_forK (fun i E => ∃ z2, E = [some (.dat (.dct false (kdD rowD (gmW G)))), some (.own (.lst (sgs (kl (sh G) (stC G fun c => !decide (c ∈ hds G)) i)))), z2, none, none, none]) ⟨_, rfl⟩ ?_ ?_
  · rintro i d E hi ⟨z2, rfl⟩
    obtain ⟨hlt, rfl⟩ := rng_get hi
    refine ev_ ⟨(hds G).map (fun c => [c]), keys_gD' G, ?_⟩
    rw [sort_gD]
    have hs := hsub i
    have hn : kl (sh G) (stC G fun c => !decide (c ∈ hds G)) (i + 1) = (sh G).filter (stC G (fun c => !decide (c ∈ hds G)) (kl (sh G) (stC G fun c => !decide (c ∈ hds G)) i)) := rfl
    rw [hn]
    generalize kl (sh G) (stC G fun c => !decide (c ∈ hds G)) i = A at hs
    refine x_lcF' (fun d => match d with | .str [h] => stC G (fun c => !decide (c ∈ hds G)) A h | _ => false) id (fun i d hi => ?_) ?_
    · obtain ⟨h, hh, rfl⟩ := sgs_get hi
      have hhG := GW.sh_mem.mp (List.mem_of_getElem? hh)
      refine ev_ ⟨rfl, _, look_at hhG, ?_⟩
      have hnum := hG.num h
      unfold rowD
      refine ev_ ?_
      refine x_lcM' (onW fun q => q.all fun c => decide (c ∈ A) || !decide (c ∈ hds G)) (fun i d hi => ?_) ?_
      · obtain ⟨q, hq, rfl⟩ := map_get hi
        have hql := (hG.rul h q (List.mem_of_getElem? hq)).1
        refine ev_ ?_
        refine x_lcM' (onC fun c => decide (c ∈ A) || !decide (c ∈ hds G)) (fun j d hj => ?_) ?_
        · obtain ⟨c, hc, rfl⟩ := map_get hj
          refine ev_ ⟨rfl, ?_⟩
          rw [in_gD]
          refine ev_iteN (fun h => ?_) (fun h => ?_)
          · refine yK_c hj (by rw [List.length_map]; omega) rfl ?_
            show _ = D.bl (decide (c ∈ A) || !decide (c ∈ hds G))
            rw [decide_eq_false h, Bool.not_false, Bool.or_true]
          · refine ⟨.inl ⟨rfl, flat_sgs A⟩, ?_⟩
            rw [any_sgs]
            refine yK_c hj (by rw [List.length_map]; omega) rfl ?_
            show _ = D.bl (decide (c ∈ A) || !decide (c ∈ hds G))
            rw [decide_eq_true h, Bool.not_true, Bool.or_false]
        · rw [map_onC]
          refine ev_ ?_
          rw [all_id]
          exact yK_c hi (by rw [List.length_map]; omega) rfl rfl
      · rw [map_onW]
        refine ev_ ?_
        rw [any_id]
        refine ev_iteB (fun e => ?_) (fun e => ?_)
        · exact yK_c hi (by rw [sgs_len]; omega) e rfl
        · exact nK_c hi e
    · have e1 : ((sgs (sh G)).filter (fun d => match d with | .str [h] => stC G (fun c => !decide (c ∈ hds G)) A h | _ => false)).map id = sgs ((sh G).filter (stC G (fun c => !decide (c ∈ hds G)) A)) := by
        rw [List.map_id, sgs_eq, sgs_eq, List.filter_map]; rfl
      rw [e1]
      exact ev_ ⟨_, rfl⟩
  · rintro E ⟨z2, rfl⟩
    have e2 : kl (sh G) (stC G fun c => !decide (c ∈ hds G)) G.length = frt G := by
      have : (sh G).length = G.length := by unfold sh; rw [srN_len]; unfold hds; rw [List.length_map]
      unfold frt clo cl
      rw [this]
      refine kl_congr (fun A x _ => hasS_congr fun p hp c hc => ?_) _
      rw [Bool.eq_iff_iff, decide_eq_true_iff, hL.low hp hc]
      simp
    rw [rng_len, show ((G.length : Int)).toNat = G.length by omega, e2]
    exact ev_ k
theorem law__law_bare : ∀ a0 Pp, f__law_bare a0 Pp → LF N__law_bare w__law_bare [a0] Pp := by
  rintro a0 Pp ⟨G, rfl, hG, k⟩
  unfold N__law_bare w__law_bare gD
  walk_at "start"
  refine ev_ ?_
  rw [len_gD]
  have hshl := hG.shl
  have hfew := hG.few
  refine ⟨⟨by omega, by omega⟩, ?_⟩
  have hsub : ∀ n, ∀ x ∈ kl (sh G) (stC G fun c => false) n, x ∈ sh G := fun n x hx => by
    cases n with
    | zero => cases hx
    | succ n => exact (List.mem_filter.mp hx).1
  refine x_forK (fun i E => ∃ z2, E = [some (.dat (.dct false (kdD rowD (gmW G)))), some (.own (.lst (sgs (kl (sh G) (stC G fun c => false) i)))), z2, none, none, none]) ⟨_, rfl⟩ ?_ ?_
  · rintro i d E hi ⟨z2, rfl⟩
    obtain ⟨hlt, rfl⟩ := rng_get hi
    refine ev_ ⟨(hds G).map (fun c => [c]), keys_gD' G, ?_⟩
    rw [sort_gD]
    have hn : kl (sh G) (stC G fun c => false) (i + 1) = (sh G).filter (stC G (fun c => false) (kl (sh G) (stC G fun c => false) i)) := rfl
    rw [hn]
    generalize kl (sh G) (stC G fun c => false) i = A
    refine x_lcF' (fun d => match d with | .str [h] => stC G (fun c => false) A h | _ => false) id (fun i d hi => ?_) ?_
    · obtain ⟨h, hh, rfl⟩ := sgs_get hi
      have hhG := GW.sh_mem.mp (List.mem_of_getElem? hh)
      refine ev_ ⟨rfl, _, look_at hhG, ?_⟩
      have hnum := hG.num h
      unfold rowD
      refine ev_ ?_
      refine x_lcM' (onW fun q => q.all fun c => decide (c ∈ A) || false) (fun i d hi => ?_) ?_
      · obtain ⟨q, hq, rfl⟩ := map_get hi
        have hql := (hG.rul h q (List.mem_of_getElem? hq)).1
        refine ev_ ?_
        refine x_lcM' (onC fun c => decide (c ∈ A) || false) (fun j d hj => ?_) ?_
        · obtain ⟨c, hc, rfl⟩ := map_get hj
          refine ev_ ⟨.inl ⟨rfl, flat_sgs A⟩, ?_⟩
          rw [any_sgs]
          refine yK_c hj (by rw [List.length_map]; omega) rfl ?_
          show _ = D.bl (decide (c ∈ A) || false)
          rw [Bool.or_false]
        · rw [map_onC]
          refine ev_ ?_
          rw [all_id]
          exact yK_c hi (by rw [List.length_map]; omega) rfl rfl
      · rw [map_onW]
        refine ev_ ?_
        rw [any_id]
        refine ev_iteB (fun e => ?_) (fun e => ?_)
        · exact yK_c hi (by rw [sgs_len]; omega) e rfl
        · exact nK_c hi e
    · have e1 : ((sgs (sh G)).filter (fun d => match d with | .str [h] => stC G (fun c => false) A h | _ => false)).map id = sgs ((sh G).filter (stC G (fun c => false) A)) := by
        rw [List.map_id, sgs_eq, sgs_eq, List.filter_map]; rfl
      rw [e1]
      exact ev_ ⟨_, rfl⟩
  · rintro E ⟨z2, rfl⟩
    have e2 : kl (sh G) (stC G fun c => false) G.length = bar G := by
      have : (sh G).length = G.length := by unfold sh; rw [srN_len]; unfold hds; rw [List.length_map]
      unfold bar clo cl
      rw [this]
      exact kl_congr (fun A x _ => hasS_congr fun p hp c hc => by simp) _
    rw [rng_len, show ((G.length : Int)).toNat = G.length by omega, e2]
    exact ev_ k
theorem frt_iff {G : Gm} (h : GL G) {x : Nat} : x ∈ frt G ↔ x ∈ hds G ∧ ∃ w, Gr G [x] w := by
  have hlow : ∀ c, decide (c ∈ lowL) = true → c ∉ hds G := fun c hc hh => by
    have h1 := lowL_mem.mp (of_decide_eq_true hc)
    have h2 := h.up c hh
    omega
  unfold frt
  rw [clo_mem]
  constructor
  · intro f
    obtain ⟨w, g, _⟩ := fx_grows hlow f
    exact ⟨f.head, w, g⟩
  · rintro ⟨hx, w, g⟩
    obtain ⟨p, hp, g⟩ := g.of_one hx
    have lw : ∀ {s w : Wo}, Gr G s w → (∀ c ∈ s, c ∈ hds G ∨ c = 97 ∨ c = 98) → ∀ c ∈ w, decide (c ∈ lowL) = true := by
      intro s w g
      induction g with
      | nil => intro _ c hc; cases hc
      | @lt d s w hn _ ih =>
        intro hs c hc
        rcases List.mem_cons.mp hc with z | z
        · rw [decide_eq_true_iff, lowL_mem]
          rcases hs d List.mem_cons_self with y | y | y
          · exact (hn y).elim
          · omega
          · omega
        · exact ih (fun x hx => hs x (List.mem_cons_of_mem _ hx)) c z
      | @hd q p u s w hq _ _ ih1 ih2 =>
        intro hs c hc
        rcases List.mem_append.mp hc with z | z
        · exact ih1 (h.ab q p hq) c z
        · exact ih2 (fun x hx => hs x (List.mem_cons_of_mem _ hx)) c z
    refine .mk hp fun c hc e => ?_
    rcases grows_fx g (lw g (h.ab x p hp)) c hc with y | y
    · exact absurd (y.symm.trans e) (by simp)
    · exact y
theorem bar_iff {G : Gm} {x : Nat} : x ∈ bar G ↔ x ∈ hds G ∧ Gr G [x] [] := by
  unfold bar
  rw [clo_mem]
  constructor
  · intro f
    obtain ⟨w, g, hw⟩ := fx_grows (fun c hc => by simp at hc) f
    cases w with
    | nil => exact ⟨f.head, g⟩
    | cons a w => exact absurd (hw a List.mem_cons_self) (by simp)
  · rintro ⟨hx, g⟩
    obtain ⟨p, hp, g⟩ := g.of_one hx
    refine .mk hp fun c hc e => ?_
    rcases grows_fx (g := fun c => decide (c ∈ ([] : Wo))) g (fun c hc => by cases hc) c hc with y | y
    · exact absurd (y.symm.trans e) (by simp)
    · exact y

end PW

set_option Elab.async false
set_option linter.all false
set_option autoImplicit false
set_option maxRecDepth 100000
set_option maxHeartbeats 4000000
set_option synthInstance.maxHeartbeats 2000000
set_option synthInstance.maxSize 1000000
set_option exponentiation.threshold 5000
namespace PW
open PySem PySem.Spec PyProof.Rows L2
local macro_rules | `(tactic| walk_at "sta") => `(tactic| with_reducible repeat (first | exact StaR.z | apply StaR.c | apply StaR.n))
local macro_rules | `(tactic| walk_at "start") => `(tactic| with_reducible first | refine LF2 (by walk_at "sta") ?_ | refine LF1 (by walk_at "sta") ?_ | refine LF3 (by walk_at "sta") ?_ | refine LF4 (by walk_at "sta") ?_ | refine LF0 (by walk_at "sta") ?_ | refine LF5 (by walk_at "sta") ?_ | refine LF6 (by walk_at "sta") ?_ | refine LP0 (by walk_at "sta") ?_ | refine LP1 (by walk_at "sta") ?_ | refine LP2 (by walk_at "sta") ?_ | refine LP3 (by walk_at "sta") ?_ | refine LL1_0 (by walk_at "sta") ?_ | refine LL2_0 (by walk_at "sta") ?_ | refine LL2_1 (by walk_at "sta") ?_ | refine LL3_0 (by walk_at "sta") ?_ | refine LL3_1 (by walk_at "sta") ?_ | refine LL3_2 (by walk_at "sta") ?_ | refine LL4_0 (by walk_at "sta") ?_ | refine LL4_1 (by walk_at "sta") ?_ | refine LL4_2 (by walk_at "sta") ?_ | refine LL4_3 (by walk_at "sta") ?_ | refine LL5_0 (by walk_at "sta") ?_ | refine LL5_1 (by walk_at "sta") ?_ | refine LL5_2 (by walk_at "sta") ?_ | refine LL5_3 (by walk_at "sta") ?_ | refine LL5_4 (by walk_at "sta") ?_)
/-! ### heads alone, steady grammars, used heads: what the defs promise -/
def alx (G : Gm) (p : Wo) (i : Nat) : Option Nat := match p[i]? with
  | some c => if c ∈ hds G ∧ ∀ d ∈ p.take i ++ p.drop (i + 1), d ∈ bar G then some c else none
  | none => none
def al1 (G : Gm) (p : Wo) : List Nat := (List.range p.length).filterMap (alx G p)
def alL (G : Gm) (h : Nat) : List Nat := (rs G h).flatMap (al1 G)
def f_alone : D → D → (B → Prop) → Prop := fun g h P => ∃ (G : Gm) (c : Nat), g = gD G ∧ h = .str [c] ∧ GW G ∧ c ∈ hds G ∧ P (.own (.lst (sgs (ssN (alL G c)))))
def f__law_alone : D → D → (B → Prop) → Prop := fun g h P => ∃ (G : Gm) (c : Nat), g = gD G ∧ h = .str [c] ∧ GW G ∧ c ∈ hds G ∧ P (.own (.lst (sgs (df [] (alL G c)))))
def Steady (G : Gm) : Prop := ∀ h ∈ hds G, ¬ Rch (fun x y => y ∈ alL G x) (fun x => x ∈ alL G h) h
open Classical in
noncomputable def std (G : Gm) : Bool := decide (Steady G)
def f_is_steady : D → (B → Prop) → Prop := fun g P => ∃ G : Gm, g = gD G ∧ GW G ∧ P (.dat (.bl (std G)))
def f__law_steady : D → (B → Prop) → Prop := fun g P => ∃ G : Gm, g = gD G ∧ GW G ∧ P (.dat (.bl (std G)))
def us (G : Gm) (x y : Nat) : Prop := ∃ p ∈ rs G x, (∀ c ∈ p, c ∈ hds G → c ∈ frt G) ∧ y ∈ p ∧ y ∈ frt G
def Us (G : Gm) (h x : Nat) : Prop := Rch (us G) (fun x => x = h ∧ h ∈ frt G) x
open Classical in
noncomputable def usd (G : Gm) (h : Nat) : List Nat := (sh G).filter fun x => decide (Us G h x)
def f_used : D → D → (B → Prop) → Prop := fun g h P => ∃ (G : Gm) (c : Nat), g = gD G ∧ h = .str [c] ∧ GL G ∧ c ∈ hds G ∧ P (.own (.lst (sgs (usd G c))))
def f__law_used : D → D → (B → Prop) → Prop := fun g h P => ∃ (G : Gm) (c : Nat), g = gD G ∧ h = .str [c] ∧ GL G ∧ c ∈ hds G ∧ P (.own (.lst (sgs (usd G c))))

def N_alone : Nat := 8
-- 0:grammar 1:head 2:empty 3:found 4:sprout 5:at 6:sign 7:other
def w_alone : WS :=
  (sSeq (sSet 2 (wCall (fs1 f_bare) (aC (wV 0) aN)))
  (sSeq (sSet 3 (wLst aN))
  (sSeq (sFor (iS (wOp wIx (oV 0) (oV 1))) (gN 4) (sFor (iEnS (wV 4)) (gT 2 (gsC (gN 5) (gsC (gN 6) gsN))) (sIf (wAnd (wTst (wOp wIn (oV 6) (oV 0))) (wTst (wUn wAll (oE (wLc (iS (wOp wAdd (oE (wSlice (oV 4) pN (pS (wV 5)))) (oE (wSlice (oV 4) (pS (wOp wAdd (oV 5) (oE (wC (.int 1))))) pN)))) (gN 7) wYes (wOp wIn (oV 7) (oV 2)) [7]))))) (sExpr (wMut1 "list" 3 mAppend (wV 6))) sNext)))
  (sRet (wUn wSortSet (oV 3))))))
def N__law_alone : Nat := 7
-- 0:grammar 1:head 2:empty 3:found 4:sprout 5:k 6:sign
def w__law_alone : WS :=
  (sSeq (sSet 2 (wCall (fs1 f__law_bare) (aC (wV 0) aN)))
  (sSeq (sSet 3 (wLst aN))
  (sSeq (sFor (iS (wOp wIx (oV 0) (oV 1))) (gN 4) (sFor (iR1 (wUn wLen (oV 4))) (gN 5) (sIf (wAnd (wTst (wOp wIn (oE (wOp wIx (oV 4) (oV 5))) (oV 0))) (wTst (wUn wAll (oE (wLc (iS (wOp wAdd (oE (wSlice (oV 4) pN (pS (wV 5)))) (oE (wSlice (oV 4) (pS (wOp wAdd (oV 5) (oE (wC (.int 1))))) pN)))) (gN 6) wYes (wOp wIn (oV 6) (oV 2)) [6]))))) (sExpr (wMut1 "list" 3 mAppend (wOp wIx (oV 4) (oV 5)))) sNext)))
  (sRet (wCall (fs1 f__law_different) (aC (wV 3) aN))))))
def N_is_steady : Nat := 5
-- 0:grammar 1:head 2:found 3:at 4:other
def w_is_steady : WS :=
  (sSeq (sFor (iS (wV 0)) (gN 1) (sSeq (sSet 2 (wCall (fs2 f_alone) (aC (wV 0) (aC (wV 1) aN))))
  (sSeq (sSet 3 (wC (.int 0)))
  (sSeq (sWhile (wTst (wOp wLt (oV 3) (oE (wUn wLen (oV 2))))) (sSeq (sExpr (wMut1 "list" 2 mExtend (wLc (iS (wCall (fs2 f_alone) (aC (wV 0) (aC (wOp wIx (oV 2) (oV 3)) aN)))) (gN 4) (wTst (wOp wNin (oV 4) (oV 2))) (wV 4) [4])))
  (sSet 3 (wOp wAdd (oV 3) (oE (wC (.int 1)))))))
  (sIf (wTst (wOp wIn (oV 1) (oV 2))) (sRet (wC (.bl false))) sNext)))))
  (sRet (wC (.bl true))))
def N__law_steady : Nat := 6
-- 0:grammar 1:head 2:row 3:turn 4:other 5:one
def w__law_steady : WS :=
  (sSeq (sFor (iS (wUn wSortK (oV 0))) (gN 1) (sSeq (sSet 2 (wCall (fs2 f__law_alone) (aC (wV 0) (aC (wV 1) aN))))
  (sSeq (sFor (iR1 (wUn wLen (oV 0))) (gN 3) (sFor (iS (wUn wList (oV 2))) (gN 4) (sSet 2 (wOp wAdd (oV 2) (oE (wLc (iS (wCall (fs2 f__law_alone) (aC (wV 0) (aC (wV 4) aN)))) (gN 5) (wTst (wOp wNin (oV 5) (oV 2))) (wV 5) [5]))))))
  (sIf (wTst (wOp wIn (oV 1) (oV 2))) (sRet (wC (.bl false))) sNext))))
  (sRet (wC (.bl true))))
def N_used : Nat := 7
-- 0:grammar 1:head 2:good 3:found 4:at 5:sprout 6:sign
def w_used : WS :=
  (sSeq (sSet 2 (wCall (fs1 f_fruitful) (aC (wV 0) aN)))
  (sJ (sSet 3 (wIf (wTst (wOp wIn (oV 1) (oV 2))) (wLst (aC (wV 1) aN)) (wLst aN)))
  (sSeq (sSet 4 (wC (.int 0)))
  (sSeq (sWhile (wTst (wOp wLt (oV 4) (oE (wUn wLen (oV 3))))) (sSeq (sFor (iS (wOp wIx (oV 0) (oE (wOp wIx (oV 3) (oV 4))))) (gN 5) (sIf (wTst (wUn wAll (oE (wLc (iS (wV 5)) (gN 6) wYes (wOrV (wOp wIn (oV 6) (oE (wC (.str lowL)))) (wOp wIn (oV 6) (oV 2))) [6])))) (sExpr (wMut1 "list" 3 mExtend (wLc (iS (wUn wSortSetS (oV 5))) (gN 6) (wAnd (wTst (wOp wIn (oV 6) (oV 2))) (wTst (wOp wNin (oV 6) (oV 3)))) (wV 6) [6]))) sNext))
  (sSet 4 (wOp wAdd (oV 4) (oE (wC (.int 1)))))))
  (sRet (wUn wSorted (oV 3)))))))
def N__law_used : Nat := 8
-- 0:grammar 1:head 2:good 3:found 4:turn 5:one 6:sprout 7:sign
def w__law_used : WS :=
  (sSeq (sSet 2 (wCall (fs1 f__law_fruitful) (aC (wV 0) aN)))
  (sJ (sSet 3 (wIf (wTst (wOp wIn (oV 1) (oV 2))) (wLst (aC (wV 1) aN)) (wLst aN)))
  (sSeq (sFor (iR1 (wUn wLen (oV 0))) (gN 4) (sFor (iS (wUn wList (oV 3))) (gN 5) (sFor (iS (wOp wIx (oV 0) (oV 5))) (gN 6) (sIf (wTst (wUn wAll (oE (wLc (iS (wV 6)) (gN 7) wYes (wOrV (wOp wNin (oV 7) (oV 0)) (wOp wIn (oV 7) (oV 2))) [7])))) (sSet 3 (wOp wAdd (oV 3) (oE (wLc (iS (wCall (fs1 f__law_different) (aC (wUn wListS (oV 6)) aN))) (gN 7) (wAnd (wTst (wOp wIn (oV 7) (oV 2))) (wTst (wOp wNin (oV 7) (oV 3)))) (wV 7) [7])))) sNext))))
  (sRet (wUn wSorted (oV 3))))))
theorem sgs_snoc (A : List Nat) (c : Nat) : sgs (A ++ [c]) = sgs A ++ [D.str [c]] := by unfold sgs; rw [List.map_append]; rfl
theorem sgs_app (A C : List Nat) : sgs (A ++ C) = sgs A ++ sgs C := by unfold sgs; rw [List.map_append]
theorem f_diff_sgs {l : List Nat} {P : B → Prop} (hl : l.length < 16777216) (k : P (.own (.lst (sgs (df [] l))))) : f__law_different (.lst (sgs l)) P :=
  ⟨Nat, inferInstance, fun c => D.str [c], l, rfl, eqC, hl, .inl fun _ _ => rfl, k⟩
theorem alx_mem {G : Gm} {p : Wo} {i c : Nat} (h : alx G p i = some c) : c ∈ hds G := by
  unfold alx at h
  split at h
  · split at h
    · rename_i e; cases h; exact e.1
    · cases h
  · cases h
theorem alL_mem {G : Gm} {h c : Nat} (hc : c ∈ alL G h) : c ∈ hds G := by
  obtain ⟨p, _, hc⟩ := List.mem_flatMap.mp hc
  obtain ⟨i, _, e⟩ := List.mem_filterMap.mp hc
  exact alx_mem e
theorem al1_len (G : Gm) (p : Wo) : (al1 G p).length ≤ p.length := by
  unfold al1
  have := List.length_filterMap_le (alx G p) (List.range p.length)
  rwa [List.length_range] at this
theorem flat_len {α β : Type} {f : α → List β} {n : Nat} : ∀ {l : List α}, (∀ x ∈ l, (f x).length ≤ n) → (l.flatMap f).length ≤ l.length * n
  | [], _ => by simp
  | a :: l, h => by
    rw [List.flatMap_cons, List.length_append, List.length_cons, Nat.succ_mul]
    have := flat_len (l := l) fun x hx => h x (List.mem_cons_of_mem _ hx)
    have := h a List.mem_cons_self
    omega
theorem alL_len {G : Gm} (hG : GW G) (h : Nat) : (alL G h).length ≤ 12 := by
  have := flat_len (l := rs G h) (f := al1 G) (n := 3) fun p hp => Nat.le_trans (al1_len G p) (hG.rul h p hp).1
  have := hG.num h
  unfold alL
  omega
theorem range_filterMap {β : Type} (f : Nat → Option β) (j : Nat) : (List.range (j + 1)).filterMap f = (List.range j).filterMap f ++ (f j).toList := by
  rw [List.range_succ, List.filterMap_append]
  congr 1
theorem flat_take {α β : Type} (f : α → List β) {l : List α} {i : Nat} {x : α} (h : l[i]? = some x) : (l.take (i + 1)).flatMap f = (l.take i).flatMap f ++ f x := by
  rw [take_snoc h, List.flatMap_append]; simp
theorem law_alone : ∀ a0 a1 Pp, f_alone a0 a1 Pp → LF N_alone w_alone [a0, a1] Pp := by
  rintro a0 a1 Pp ⟨G, h, rfl, rfl, hG, hh, k⟩
  unfold N_alone w_alone gD
  walk_at "start"
  refine ev_ ⟨G, rfl, hG, ?_⟩
  refine ev_ ⟨rfl, _, look_at hh, ?_⟩
  unfold rowD
  refine ev_ ?_
  have hbl := clo_len hG []
  have hnum := hG.num h
  refine x_forK (fun i E => ∃ z4 z5 z6, E = [some (.dat (.dct false (kdD rowD (gmW G)))), some (.dat (.str [h])), some (.own (.lst (sgs (bar G)))), some (.own (.lst (sgs (((rs G h).take i).flatMap (al1 G))))), z4, z5, z6, none]) ⟨_, _, _, rfl⟩ ?_ ?_
  · rintro i d E hi ⟨z4, z5, z6, rfl⟩
    obtain ⟨p, hp, rfl⟩ := map_get hi
    have hpm := List.mem_of_getElem? hp
    have hpl := (hG.rul h p hpm).1
    have hil := (List.getElem?_eq_some_iff.mp hp).1
    have hacc := flat_len (l := (rs G h).take i) (f := al1 G) (n := 3) fun q hq => Nat.le_trans (al1_len G q) (hG.rul h q (List.mem_of_mem_take hq)).1
    rw [List.length_take] at hacc
    refine ev_ ?_
    refine x_forK (fun j E => ∃ z5 z6, E = [some (.dat (.dct false (kdD rowD (gmW G)))), some (.dat (.str [h])), some (.own (.lst (sgs (bar G)))), some (.own (.lst (sgs (((rs G h).take i).flatMap (al1 G) ++ (List.range j).filterMap (alx G p))))), some (.dat (.str p)), z5, z6, none]) ⟨_, _, by rw [List.range_zero, List.filterMap_nil, List.append_nil]⟩ ?_ ?_
    · rintro j d E hj ⟨z5, z6, rfl⟩
      obtain ⟨x, hx, rfl⟩ := enumD_get hj
      obtain ⟨c, hc, rfl⟩ := sgs_get hx
      have hjl := (List.getElem?_eq_some_iff.mp hc).1
      have hfl := List.length_filterMap_le (alx G p) (List.range j)
      rw [List.length_range] at hfl
      refine ev_ ⟨rfl, ?_⟩
      rw [in_gD]
      have hstep : ∀ o : Option Nat, alx G p j = o → ((rs G h).take i).flatMap (al1 G) ++ (List.range (j + 1)).filterMap (alx G p) = (((rs G h).take i).flatMap (al1 G) ++ (List.range j).filterMap (alx G p)) ++ o.toList := fun o e => by
        rw [range_filterMap, e, List.append_assoc]
      refine ev_ite (fun hcG => ?_) (fun hcG => ?_)
      · refine ⟨by omega, by omega, ?_⟩
        have ecut : cut p none (some (j : Int)) ++ cut p (some ((j : Int) + 1)) none = p.take j ++ p.drop (j + 1) := by
          rw [cut_to p (by omega), cut_from p (by omega)]
          congr 2
        rw [ecut]
        have hql : (p.take j ++ p.drop (j + 1)).length ≤ 3 := by rw [List.length_append, List.length_take, List.length_drop]; omega
        refine ⟨by rw [← List.length_append, ecut]; omega, ?_⟩
        generalize hq : p.take j ++ p.drop (j + 1) = q at hql
        refine x_lcM' (onC fun c => decide (c ∈ bar G)) (fun j d hj => ?_) ?_
        · obtain ⟨c, hc, rfl⟩ := map_get hj
          refine ev_ ⟨.inl ⟨rfl, flat_sgs _⟩, ?_⟩
          rw [any_sgs]
          exact yK_c hj (by rw [List.length_map]; omega) rfl rfl
        · rw [map_onC]
          refine ev_ ?_
          rw [all_id]
          have hin : q.all (fun c => decide (c ∈ bar G)) = true ↔ ∀ d ∈ q, d ∈ bar G := by rw [List.all_eq_true]; simp
          refine ev_iteB (fun e => ?_) (fun e => ?_)
          · refine ⟨by rw [sgs_len, List.length_append]; omega, some (.dat (.int (j : Nat))), some (.dat (.str [c])), ?_⟩
            rw [hstep (some c) (by unfold alx; rw [hc]; dsimp only; rw [hq, if_pos ⟨hcG, hin.mp e⟩])]
            rw [show (some c).toList = [c] from rfl, sgs_snoc]
          · refine ⟨some (.dat (.int (j : Nat))), some (.dat (.str [c])), ?_⟩
            rw [hstep none (by unfold alx; rw [hc]; dsimp only; rw [hq, if_neg fun z => by rw [hin.mpr z.2] at e; cases e])]
            simp
      · refine ⟨some (.dat (.int (j : Nat))), some (.dat (.str [c])), ?_⟩
        rw [hstep none (by unfold alx; rw [hc]; dsimp only; rw [if_neg fun z => hcG z.1])]
        simp
    · rintro E ⟨z5, z6, rfl⟩
      refine ⟨some (.dat (.str p)), z5, z6, ?_⟩
      rw [enumD_len, sgs_len, flat_take _ hp]; rfl
  · rintro E ⟨z4, z5, z6, rfl⟩
    rw [List.length_map, List.take_length]
    refine ev_ ⟨⟨by rw [sgs_strs]; exact allTx_strs _, ?_⟩, fun m hm hl => ?_⟩
    · have := alL_len hG h
      rw [sgs_len]
      show (alL G h).length < 4000
      omega
    · rw [setSort_sgs hm]
      exact k
theorem law__law_alone : ∀ a0 a1 Pp, f__law_alone a0 a1 Pp → LF N__law_alone w__law_alone [a0, a1] Pp := by
  rintro a0 a1 Pp ⟨G, h, rfl, rfl, hG, hh, k⟩
  unfold N__law_alone w__law_alone gD
  walk_at "start"
  refine ev_ ⟨G, rfl, hG, ?_⟩
  refine ev_ ⟨rfl, _, look_at hh, ?_⟩
  unfold rowD
  refine ev_ ?_
  have hbl := clo_len hG []
  have hnum := hG.num h
  refine x_forK (fun i E => ∃ z4 z5, E = [some (.dat (.dct false (kdD rowD (gmW G)))), some (.dat (.str [h])), some (.own (.lst (sgs (bar G)))), some (.own (.lst (sgs (((rs G h).take i).flatMap (al1 G))))), z4, z5, none]) ⟨_, _, rfl⟩ ?_ ?_
  · rintro i d E hi ⟨z4, z5, rfl⟩
    obtain ⟨p, hp, rfl⟩ := map_get hi
    have hpm := List.mem_of_getElem? hp
    have hpl := (hG.rul h p hpm).1
    have hil := (List.getElem?_eq_some_iff.mp hp).1
    have hacc := flat_len (l := (rs G h).take i) (f := al1 G) (n := 3) fun q hq => Nat.le_trans (al1_len G q) (hG.rul h q (List.mem_of_mem_take hq)).1
    rw [List.length_take] at hacc
    refine ev_ ⟨by omega, ⟨by omega, by omega⟩, ?_⟩
    refine x_forK (fun j E => ∃ z5, E = [some (.dat (.dct false (kdD rowD (gmW G)))), some (.dat (.str [h])), some (.own (.lst (sgs (bar G)))), some (.own (.lst (sgs (((rs G h).take i).flatMap (al1 G) ++ (List.range j).filterMap (alx G p))))), some (.dat (.str p)), z5, none]) ⟨_, by rw [List.range_zero, List.filterMap_nil, List.append_nil]⟩ ?_ ?_
    · rintro j d E hj ⟨z5, rfl⟩
      obtain ⟨hjl, rfl⟩ := rng_get hj
      have hjl : j < p.length := by omega
      have hc : p[j]? = some p[j] := List.getElem?_eq_getElem hjl
      generalize p[j] = c at hc
      have hfl := List.length_filterMap_le (alx G p) (List.range j)
      rw [List.length_range] at hfl
      have hat : atI p (0 + (j : Int)) = some c := by rw [Int.zero_add, atI_nat]; exact hc
      refine ev_ ⟨by omega, c, hat, rfl, ?_⟩
      rw [in_gD]
      have hstep : ∀ o : Option Nat, alx G p j = o → ((rs G h).take i).flatMap (al1 G) ++ (List.range (j + 1)).filterMap (alx G p) = (((rs G h).take i).flatMap (al1 G) ++ (List.range j).filterMap (alx G p)) ++ o.toList := fun o e => by
        rw [range_filterMap, e, List.append_assoc]
      refine ev_ite (fun hcG => ?_) (fun hcG => ?_)
      · refine ⟨by omega, by omega, ?_⟩
        have ecut : cut p none (some (0 + (j : Int))) ++ cut p (some (0 + (j : Int) + 1)) none = p.take j ++ p.drop (j + 1) := by
          rw [cut_to p (by omega), cut_from p (by omega)]
          congr 2
          · omega
          · omega
        rw [ecut]
        have hql : (p.take j ++ p.drop (j + 1)).length ≤ 3 := by rw [List.length_append, List.length_take, List.length_drop]; omega
        refine ⟨by rw [← List.length_append, ecut]; omega, ?_⟩
        generalize hq : p.take j ++ p.drop (j + 1) = q at hql
        refine x_lcM' (onC fun c => decide (c ∈ bar G)) (fun j d hj => ?_) ?_
        · obtain ⟨c, hc, rfl⟩ := map_get hj
          refine ev_ ⟨.inl ⟨rfl, flat_sgs _⟩, ?_⟩
          rw [any_sgs]
          exact yK_c hj (by rw [List.length_map]; omega) rfl rfl
        · rw [map_onC]
          refine ev_ ?_
          rw [all_id]
          have hin : q.all (fun c => decide (c ∈ bar G)) = true ↔ ∀ d ∈ q, d ∈ bar G := by rw [List.all_eq_true]; simp
          refine ev_iteB (fun e => ?_) (fun e => ?_)
          · refine ⟨by omega, c, hat, by rw [sgs_len, List.length_append]; omega, some (.dat (.int (0 + (j : Int)))), ?_⟩
            rw [hstep (some c) (by unfold alx; rw [hc]; dsimp only; rw [hq, if_pos ⟨hcG, hin.mp e⟩])]
            rw [show (some c).toList = [c] from rfl, sgs_snoc]
          · refine ⟨some (.dat (.int (0 + (j : Int)))), ?_⟩
            rw [hstep none (by unfold alx; rw [hc]; dsimp only; rw [hq, if_neg fun z => by rw [hin.mpr z.2] at e; cases e])]
            simp
      · refine ⟨some (.dat (.int (0 + (j : Int)))), ?_⟩
        rw [hstep none (by unfold alx; rw [hc]; dsimp only; rw [if_neg fun z => hcG z.1])]
        simp
    · rintro E ⟨z5, rfl⟩
      refine ⟨some (.dat (.str p)), z5, ?_⟩
      rw [rng_len, flat_take _ hp, show ((p.length : Int)).toNat = p.length by omega]; rfl
  · rintro E ⟨z4, z5, rfl⟩
    rw [List.length_map, List.take_length]
    refine ev_ ?_
    refine f_diff_sgs (by have := alL_len hG h; show (alL G h).length < _; omega) ?_
    exact ev_ k
open Classical in
theorem std_t {G : Gm} (h : Steady G) : std G = true := decide_eq_true h
open Classical in
theorem std_f {G : Gm} (h : ¬ Steady G) : std G = false := decide_eq_false h
theorem std_iff {G : Gm} : std G = true ↔ Steady G := by
  constructor
  · intro h
    refine Classical.byContradiction fun n => ?_
    rw [std_f n] at h; cases h
  · exact std_t
/-! closures -/
theorem full_closed {H A : List Nat} (hH : H.length ≤ A.length) (nA : A.Nodup) (hs : ∀ x ∈ A, x ∈ H) : ∀ x ∈ H, x ∈ A := fun x hx => by
  by_cases z : x ∈ A
  · exact z
  · have := nodup_len (l := x :: A) (m := H) (List.nodup_cons.mpr ⟨z, nA⟩) fun y hy => by
      rcases List.mem_cons.mp hy with e | e
      · rw [e]; exact hx
      · exact hs y e
    rw [List.length_cons] at this
    omega
theorem law_is_steady : ∀ a0 Pp, f_is_steady a0 Pp → LF N_is_steady w_is_steady [a0] Pp := by
  rintro a0 Pp ⟨G, rfl, hG, k⟩
  unfold N_is_steady w_is_steady gD
  walk_at "start"
  refine ev_ ?_
  rw [keys_gD]
  refine x_forK (fun i E => ∃ z1 z2 z3, (∀ h ∈ (hds G).take i, ¬ Rch (fun x y => y ∈ alL G x) (fun x => x ∈ alL G h) h) ∧ E = [some (.dat (.dct false (kdD rowD (gmW G)))), z1, z2, z3, none]) ⟨none, none, none, by simp, rfl⟩ ?_ ?_
  · rintro i d E hi ⟨z1, z2, z3, hst, rfl⟩
    obtain ⟨h, hh, rfl⟩ := sgs_get hi
    have hhG := List.mem_of_getElem? hh
    refine ev_ ⟨G, h, rfl, rfl, hG, hhG, ?_⟩
    refine ev_ ?_
    refine x_while (fun r E => ∃ (A : List Nat) (t : Nat), A.Nodup ∧ (∀ x ∈ A, Rch (fun x y => y ∈ alL G x) (fun x => x ∈ alL G h) x) ∧ (∀ x ∈ alL G h, x ∈ A) ∧ (∀ j x, j < t → A[j]? = some x → ∀ y ∈ alL G x, y ∈ A) ∧ t ≤ A.length ∧ r = 4 - t ∧ E = [some (.dat (.dct false (kdD rowD (gmW G)))), some (.dat (.str [h])), some (.own (.lst (sgs A))), some (.dat (.int (t : Nat))), none]) _ ⟨ssN (alL G h), 0, ssN_nodup _, (fun x hx => .st (ssN_mem.mp hx)), (fun x hx => ssN_mem.mpr hx), (fun j x h => by omega), by omega, rfl, rfl⟩ ?_
    rintro r E ⟨A, t, nA, sA, stA, cA, ht, rfl, rfl⟩
    have hsub : ∀ x ∈ A, x ∈ hds G := fun x hx => by
      have := sA x hx
      cases this with
      | st h => exact alL_mem h
      | nx _ h => exact alL_mem h
    have hlA := Nat.le_trans (nodup_len nA hsub) hG.hl
    refine ev_ ?_
    rw [sgs_len]
    refine ev_ite (fun g => ?_) (fun g => ?_)
    · have htl : t < A.length := by omega
      have hx : A[t]? = some A[t] := List.getElem?_eq_getElem htl
      have hxA : A[t] ∈ A := List.getElem_mem htl
      generalize A[t] = x at hx hxA
      refine ⟨.str [x], by rw [atI_nat]; unfold sgs; rw [List.getElem?_map, hx]; rfl, G, x, rfl, rfl, hG, hsub x hxA, ?_⟩
      refine ev_ ?_
      refine x_lcF' (fun d => match d with | .str [c] => !decide (c ∈ A) | _ => false) id (fun i d hi => ?_) ?_
      · obtain ⟨c, hc, rfl⟩ := sgs_get hi
        have hcl := nodup_len (ssN_nodup (alL G x)) (m := hds G) fun y hy => alL_mem (ssN_mem.mp hy)
        have := hG.hl
        refine ev_ ⟨.inl ⟨rfl, flat_sgs _⟩, ?_⟩
        rw [any_sgs]
        refine ev_iteN (fun e => ?_) (fun e => ?_)
        · exact yK_c hi (by rw [sgs_len]; omega) (by show (!decide (c ∈ A)) = true; rw [decide_eq_false e]; rfl) rfl
        · exact nK_c hi (by show (!decide (c ∈ A)) = false; rw [decide_eq_true e]; rfl)
      · have e1 : ((sgs (ssN (alL G x))).filter (fun d => match d with | .str [c] => !decide (c ∈ A) | _ => false)).map id = sgs ((ssN (alL G x)).filter fun c => !decide (c ∈ A)) := by
          rw [List.map_id, sgs_eq, sgs_eq, List.filter_map]; rfl
        rw [e1]
        have hN : ∀ c, c ∈ (ssN (alL G x)).filter (fun c => !decide (c ∈ A)) ↔ c ∈ alL G x ∧ c ∉ A := fun c => by rw [List.mem_filter, ssN_mem]; simp
        have nN : ((ssN (alL G x)).filter (fun c => !decide (c ∈ A))).Nodup := (ssN_nodup _).sublist List.filter_sublist
        generalize (ssN (alL G x)).filter (fun c => !decide (c ∈ A)) = N at hN nN
        have nAN : (A ++ N).Nodup := List.nodup_append.mpr ⟨nA, nN, fun a ha b hb e => ((hN b).mp hb).2 (by rw [← e]; exact ha)⟩
        have hNl := Nat.le_trans (nodup_len nN (m := hds G) fun y hy => alL_mem ((hN y).mp hy).1) hG.hl
        refine ev_ ⟨by rw [sgs_len, sgs_len]; omega, 4 - (t + 1), by omega, A ++ N, t + 1, nAN, fun y hy => ?_, fun y hy => List.mem_append_left _ (stA y hy), fun j y hj hy z hz => ?_, by rw [List.length_append]; omega, rfl, by rw [sgs_app]; rfl⟩
        · rcases List.mem_append.mp hy with e | e
          · exact sA y e
          · exact .nx (sA x hxA) ((hN y).mp e).1
        · rw [List.getElem?_append_left (by omega)] at hy
          rcases Nat.lt_or_ge j t with e | e
          · exact List.mem_append_left _ (cA j y e hy z hz)
          · rw [show j = t by omega, hx] at hy
            cases hy
            by_cases e2 : z ∈ A
            · exact List.mem_append_left _ e2
            · exact List.mem_append_right _ ((hN z).mpr ⟨hz, e2⟩)
    · have htA : t = A.length := by omega
      have hmem : h ∈ A ↔ Rch (fun x y => y ∈ alL G x) (fun x => x ∈ alL G h) h := ⟨sA h, fun r => r.closed stA fun x hx y hy => by
        obtain ⟨j, hj, e⟩ := List.getElem_of_mem hx
        exact cA j x (by omega) (by rw [List.getElem?_eq_getElem hj, e]) y hy⟩
      refine ev_ ⟨.inl ⟨rfl, flat_sgs _⟩, ?_⟩
      rw [any_sgs]
      refine ev_ite (fun e => ?_) (fun e => ?_)
      · rw [std_f fun s => s h hhG (hmem.mp e)] at k
        exact k
      · refine ⟨_, _, _, fun y hy => ?_, rfl⟩
        rw [take_snoc hh] at hy
        rcases List.mem_append.mp hy with z | z
        · exact hst y z
        · rw [List.mem_singleton.mp z]; exact fun r => e (hmem.mpr r)
  · rintro E ⟨z1, z2, z3, hst, rfl⟩
    rw [sgs_len, List.take_length] at hst
    refine ev_ ?_
    rw [std_t hst] at k
    exact k
theorem law__law_steady : ∀ a0 Pp, f__law_steady a0 Pp → LF N__law_steady w__law_steady [a0] Pp := by
  rintro a0 Pp ⟨G, rfl, hG, k⟩
  unfold N__law_steady w__law_steady gD
  walk_at "start"
  refine ev_ ⟨(hds G).map (fun c => [c]), keys_gD' G, ?_⟩
  rw [sort_gD]
  have hfew := hG.few
  refine x_forK (fun i E => ∃ z1 z2 z3 z4, (∀ h ∈ (sh G).take i, ¬ Rch (fun x y => y ∈ alL G x) (fun x => x ∈ alL G h) h) ∧ E = [some (.dat (.dct false (kdD rowD (gmW G)))), z1, z2, z3, z4, none]) ⟨none, none, none, none, by simp, rfl⟩ ?_ ?_
  · rintro i d E hi ⟨z1, z2, z3, z4, hst, rfl⟩
    obtain ⟨h, hh, rfl⟩ := sgs_get hi
    have hhG := GW.sh_mem.mp (List.mem_of_getElem? hh)
    have sub0 : ∀ {A : List Nat}, (∀ x ∈ A, Rch (fun x y => y ∈ alL G x) (fun x => x ∈ alL G h) x) → ∀ x ∈ A, x ∈ hds G := fun sA x hx => by
      cases sA x hx with
      | st h => exact alL_mem h
      | nx _ h => exact alL_mem h
    refine ev_ ⟨G, h, rfl, rfl, hG, hhG, ?_⟩
    refine ev_ ?_
    rw [len_gD]
    refine ⟨⟨by omega, by omega⟩, ?_⟩
    refine x_forK (fun t E => ∃ A z3 z4, A.Nodup ∧ (∀ x ∈ A, Rch (fun x y => y ∈ alL G x) (fun x => x ∈ alL G h) x) ∧ (∀ x ∈ alL G h, x ∈ A) ∧ ((∀ x ∈ A, ∀ y ∈ alL G x, y ∈ A) ∨ t ≤ A.length) ∧ E = [some (.dat (.dct false (kdD rowD (gmW G)))), some (.dat (.str [h])), some (.own (.lst (sgs A))), z3, z4, none]) ⟨df [] (alL G h), _, _, df_nodup _, (fun x hx => .st (df_mem.mp hx)), (fun x hx => df_mem.mpr hx), .inr (Nat.zero_le _), rfl⟩ ?_ ?_
    · rintro t d E ht ⟨A, z3, z4, nA, sA, stA, cA, rfl⟩
      obtain ⟨htl, rfl⟩ := rng_get ht
      have hlA := Nat.le_trans (nodup_len nA (sub0 sA)) hG.hl
      refine ev_ ?_
      refine x_forK (fun j E => ∃ R z4, R.Nodup ∧ (∀ x ∈ R, Rch (fun x y => y ∈ alL G x) (fun x => x ∈ alL G h) x) ∧ (∀ x ∈ A, x ∈ R) ∧ (∀ x ∈ A.take j, ∀ y ∈ alL G x, y ∈ R) ∧ (R = A ∨ (A.length < R.length ∧ ¬ ∀ x ∈ A, ∀ y ∈ alL G x, y ∈ A)) ∧ E = [some (.dat (.dct false (kdD rowD (gmW G)))), some (.dat (.str [h])), some (.own (.lst (sgs R))), some (.dat (.int (0 + (t : Int)))), z4, none]) ⟨A, _, nA, sA, fun x h => h, by simp, .inl rfl, rfl⟩ ?_ ?_
      · rintro j d E hj ⟨R, z4, nR, sR, aR, cR, oR, rfl⟩
        obtain ⟨x, hx, rfl⟩ := sgs_get hj
        have hxA := List.mem_of_getElem? hx
        have hlR := Nat.le_trans (nodup_len nR (sub0 sR)) hG.hl
        refine ev_ ⟨G, x, rfl, rfl, hG, sub0 sA x hxA, ?_⟩
        refine ev_ ?_
        have hdl := Nat.le_trans (nodup_len (df_nodup (alL G x)) (m := hds G) fun y hy => alL_mem (df_mem.mp hy)) hG.hl
        refine x_lcF' (fun d => match d with | .str [c] => !decide (c ∈ R) | _ => false) id (fun i d hi => ?_) ?_
        · obtain ⟨c, hc, rfl⟩ := sgs_get hi
          refine ev_ ⟨.inl ⟨rfl, flat_sgs _⟩, ?_⟩
          rw [any_sgs]
          refine ev_iteN (fun e => ?_) (fun e => ?_)
          · exact yK_c hi (by rw [sgs_len]; omega) (by show (!decide (c ∈ R)) = true; rw [decide_eq_false e]; rfl) rfl
          · exact nK_c hi (by show (!decide (c ∈ R)) = false; rw [decide_eq_true e]; rfl)
        · have e1 : ((sgs (df [] (alL G x))).filter (fun d => match d with | .str [c] => !decide (c ∈ R) | _ => false)).map id = sgs ((df [] (alL G x)).filter fun c => !decide (c ∈ R)) := by
            rw [List.map_id, sgs_eq, sgs_eq, List.filter_map]; rfl
          rw [e1]
          have hN : ∀ c, c ∈ (df [] (alL G x)).filter (fun c => !decide (c ∈ R)) ↔ c ∈ alL G x ∧ c ∉ R := fun c => by rw [List.mem_filter, df_mem]; simp
          have nN : ((df [] (alL G x)).filter (fun c => !decide (c ∈ R))).Nodup := (df_nodup _).sublist List.filter_sublist
          generalize (df [] (alL G x)).filter (fun c => !decide (c ∈ R)) = N at hN nN
          have nRN : (R ++ N).Nodup := List.nodup_append.mpr ⟨nR, nN, fun a ha b hb e => ((hN b).mp hb).2 (by rw [← e]; exact ha)⟩
          have hNl := Nat.le_trans (nodup_len nN (m := hds G) fun y hy => alL_mem ((hN y).mp hy).1) hG.hl
          refine ev_ ⟨by rw [sgs_len, sgs_len]; omega, R ++ N, _, nRN, fun y hy => ?_, fun y hy => List.mem_append_left _ (aR y hy), fun y hy z hz => ?_, ?_, by rw [sgs_app]⟩
          · rcases List.mem_append.mp hy with e | e
            · exact sR y e
            · exact .nx (sA x hxA) ((hN y).mp e).1
          · rw [take_snoc hx] at hy
            rcases List.mem_append.mp hy with e | e
            · exact List.mem_append_left _ (cR y e z hz)
            · rw [List.mem_singleton.mp e] at hz
              by_cases e2 : z ∈ R
              · exact List.mem_append_left _ e2
              · exact List.mem_append_right _ ((hN z).mpr ⟨hz, e2⟩)
          · cases N with
            | nil => rw [List.append_nil]; exact oR
            | cons a N =>
              have ha := (hN a).mp List.mem_cons_self
              refine .inr ⟨?_, fun z => ha.2 (aR _ (z x hxA a ha.1))⟩
              rw [List.length_append, List.length_cons]
              rcases oR with e | ⟨e, _⟩
              · rw [e]; omega
              · omega
      · rintro E ⟨R, z4, nR, sR, aR, cR, oR, rfl⟩
        rw [sgs_len, List.take_length] at cR
        refine ⟨R, _, _, nR, sR, fun x hx => aR x (stA x hx), ?_, rfl⟩
        rcases oR with e | ⟨e1, e2⟩
        · subst e; exact .inl cR
        · rcases cA with z | z
          · exact (e2 z).elim
          · exact .inr (by omega)
    · rintro E ⟨A, z3, z4, nA, sA, stA, cA, rfl⟩
      rw [rng_len, show ((G.length : Int)).toNat = G.length by omega] at cA
      have cA : ∀ x ∈ A, ∀ y ∈ alL G x, y ∈ A := by
        rcases cA with z | z
        · exact z
        · exact fun x hx y hy => full_closed (H := hds G) (by unfold hds; rw [List.length_map]; exact z) nA (sub0 sA) y (alL_mem hy)
      have hmem : h ∈ A ↔ Rch (fun x y => y ∈ alL G x) (fun x => x ∈ alL G h) h := ⟨sA h, fun r => r.closed stA cA⟩
      refine ev_ ⟨.inl ⟨rfl, flat_sgs _⟩, ?_⟩
      rw [any_sgs]
      refine ev_ite (fun e => ?_) (fun e => ?_)
      · rw [std_f fun s => s h hhG (hmem.mp e)] at k
        exact k
      · refine ⟨_, _, _, _, fun y hy => ?_, rfl⟩
        rw [take_snoc hh] at hy
        rcases List.mem_append.mp hy with z | z
        · exact hst y z
        · rw [List.mem_singleton.mp z]; exact fun r => e (hmem.mpr r)
  · rintro E ⟨z1, z2, z3, z4, hst, rfl⟩
    rw [sgs_len, List.take_length] at hst
    refine ev_ ?_
    rw [std_t fun h hh => hst h (GW.sh_mem.mpr hh)] at k
    exact k
open Classical in
theorem usd_iff {G : Gm} {h x : Nat} (hh : h ∈ hds G) : x ∈ usd G h ↔ Us G h x := by
  unfold usd
  rw [List.mem_filter, decide_eq_true_iff]
  refine ⟨fun z => z.2, fun z => ⟨?_, z⟩⟩
  cases z with
  | st e => rw [e.1]; exact GW.sh_mem.mpr hh
  | nx _ e => obtain ⟨p, _, _, _, e⟩ := e; exact GW.sh_mem.mpr (clo_sub e)
theorem usd_pw (G : Gm) (h : Nat) : (usd G h).Pairwise (· ≤ ·) := by unfold usd; exact (srN_pw _).sublist List.filter_sublist
theorem usd_nd {G : Gm} (hG : GW G) (h : Nat) : (usd G h).Nodup := by unfold usd; exact (srN_nodup hG.nd).sublist List.filter_sublist
theorem usd_of {G : Gm} (hG : GW G) {h : Nat} (hh : h ∈ hds G) {A : List Nat} (nA : A.Nodup) (hA : ∀ x, x ∈ A ↔ Us G h x) : srN A = usd G h :=
  asc_eq (srN_nodup nA) (usd_nd hG h) (fun x => by rw [srN_mem, hA, usd_iff hh]) (srN_pw _) (usd_pw G h)
theorem Us.frt {G : Gm} {h x : Nat} (u : Us G h x) : x ∈ frt G := by
  cases u with
  | st e => rw [e.1]; exact e.2
  | nx _ e => obtain ⟨p, _, _, _, e⟩ := e; exact e
/-- what is found out of one sprout -/
theorem us_out {G : Gm} {x y : Nat} {L : List Wo} (e : L = rs G x) : us G x y ↔ ∃ p ∈ L, (∀ c ∈ p, c ∈ hds G → c ∈ PW.frt G) ∧ y ∈ p ∧ y ∈ PW.frt G := by subst e; exact Iff.rfl
theorem law_used : ∀ a0 a1 Pp, f_used a0 a1 Pp → LF N_used w_used [a0, a1] Pp := by
  rintro a0 a1 Pp ⟨G, h, rfl, rfl, hL, hh, k⟩
  have hG := hL.toGW
  have hfl := clo_len hG lowL
  unfold N_used w_used gD
  walk_at "start"
  refine ev_ ⟨G, rfl, hG, ?_⟩
  refine ev_ ?_
  refine x_join (fun E => ∃ A : List Nat, A.Nodup ∧ (∀ x ∈ A, x = h ∧ h ∈ frt G) ∧ (h ∈ frt G → h ∈ A) ∧ E = [some (.dat (.dct false (kdD rowD (gmW G)))), some (.dat (.str [h])), some (.own (.lst (sgs (frt G)))), some (.own (.lst (sgs A))), none, none, none]) (fun nx' hn => ?_) ?_
  · refine ev_ ⟨.inl ⟨rfl, flat_sgs _⟩, ?_⟩
    rw [any_sgs]
    refine ev_ite (fun e => ?_) (fun e => ?_)
    · exact hn _ ⟨[h], by simp, fun x hx => ⟨List.mem_singleton.mp hx, e⟩, fun _ => by simp, rfl⟩
    · exact hn _ ⟨[], by simp, (fun x hx => by cases hx), fun z => (e z).elim, rfl⟩
  · rintro E ⟨A, nA, sA, tA, rfl⟩
    have sA : ∀ x ∈ A, Us G h x := fun x hx => .st (sA x hx)
    have tA : ∀ x, (x = h ∧ h ∈ frt G) → x ∈ A := fun x ⟨e, f⟩ => by rw [e]; exact tA f
    refine ev_ ?_
    refine x_while (fun r E => ∃ (A : List Nat) (t : Nat) (z5 : Option B), A.Nodup ∧ (∀ x ∈ A, Us G h x) ∧ (∀ x, (x = h ∧ h ∈ frt G) → x ∈ A) ∧ (∀ j x, j < t → A[j]? = some x → ∀ y, us G x y → y ∈ A) ∧ t ≤ A.length ∧ r = 4 - t ∧ E = [some (.dat (.dct false (kdD rowD (gmW G)))), some (.dat (.str [h])), some (.own (.lst (sgs (frt G)))), some (.own (.lst (sgs A))), some (.dat (.int (t : Nat))), z5, none]) _ ⟨A, 0, _, nA, sA, tA, (fun j x h => by omega), by omega, rfl, rfl⟩ ?_
    rintro r E ⟨A, t, z5, nA, sA, tA, cA, ht, rfl, rfl⟩
    have hsub : ∀ x ∈ A, x ∈ hds G := fun x hx => clo_sub (sA x hx).frt
    have hlA := Nat.le_trans (nodup_len nA hsub) hG.hl
    refine ev_ ?_
    rw [sgs_len]
    refine ev_ite (fun g => ?_) (fun g => ?_)
    · have htl : t < A.length := by omega
      have hx : A[t]? = some A[t] := List.getElem?_eq_getElem htl
      have hxA : A[t] ∈ A := List.getElem_mem htl
      generalize A[t] = x at hx hxA
      refine ⟨.str [x], by rw [atI_nat]; unfold sgs; rw [List.getElem?_map, hx]; rfl, rfl, _, look_at (hsub x hxA), ?_⟩
      unfold rowD
      refine ev_ ?_
      refine x_forK (fun j E => ∃ (N : List Nat) (z5 : Option B), (A ++ N).Nodup ∧ (∀ y ∈ N, us G x y) ∧ (∀ p ∈ (rs G x).take j, (∀ c ∈ p, c ∈ hds G → c ∈ frt G) → ∀ y ∈ p, y ∈ frt G → y ∈ A ++ N) ∧ E = [some (.dat (.dct false (kdD rowD (gmW G)))), some (.dat (.str [h])), some (.own (.lst (sgs (frt G)))), some (.own (.lst (sgs (A ++ N)))), some (.dat (.int (t : Nat))), z5, none]) ⟨[], _, by rw [List.append_nil]; exact nA, (fun y hy => by cases hy), by simp, by rw [List.append_nil]⟩ ?_ ?_
      · rintro j d E hj ⟨N, z5, nN, sN, cN, rfl⟩
        obtain ⟨p, hp, rfl⟩ := map_get hj
        have hpm := List.mem_of_getElem? hp
        have hpl := (hG.rul x p hpm).1
        have hsN : ∀ y ∈ A ++ N, y ∈ frt G := fun y hy => by
          rcases List.mem_append.mp hy with e | e
          · exact (sA y e).frt
          · obtain ⟨_, _, _, _, e⟩ := sN y e; exact e
        have hlN := Nat.le_trans (nodup_len nN hsN) hfl
        rw [List.length_append] at hlN
        refine ev_ ?_
        refine x_lcM' (onC fun c => decide (c ∈ lowL) || decide (c ∈ frt G)) (fun i d hi => ?_) ?_
        · obtain ⟨c, hc, rfl⟩ := map_get hi
          refine ev_ ?_
          refine ev_ite (fun e => ?_) (fun e => ?_)
          · refine yK_c hi (by rw [List.length_map]; omega) rfl ?_
            show _ = D.bl (decide (c ∈ lowL) || decide (c ∈ frt G))
            rw [decide_eq_true e]; rfl
          · refine ⟨.inl ⟨rfl, flat_sgs _⟩, ?_⟩
            rw [any_sgs]
            refine yK_c hi (by rw [List.length_map]; omega) rfl ?_
            show _ = D.bl (decide (c ∈ lowL) || decide (c ∈ frt G))
            rw [decide_eq_false e]; rfl
        · rw [map_onC]
          refine ev_ ?_
          rw [all_id]
          have hin : p.all (fun c => decide (c ∈ lowL) || decide (c ∈ frt G)) = true ↔ ∀ c ∈ p, c ∈ hds G → c ∈ frt G := by
            rw [List.all_eq_true]
            constructor
            · intro z c hc hcG
              have := z c hc
              rw [Bool.or_eq_true, decide_eq_true_iff, decide_eq_true_iff, hL.low hpm hc] at this
              rcases this with y | y
              · exact (y hcG).elim
              · exact y
            · intro z c hc
              rw [Bool.or_eq_true, decide_eq_true_iff, decide_eq_true_iff, hL.low hpm hc]
              by_cases y : c ∈ hds G
              · exact .inr (z c hc y)
              · exact .inl y
          refine ev_iteB (fun e => ?_) (fun e => ?_)
          · refine ⟨by omega, fun m hm hml => ?_⟩
            rw [setSort_sgs hm] at hml ⊢
            rw [sgs_len] at hml
            refine x_lcF' (fun d => match d with | .str [c] => decide (c ∈ frt G) && !decide (c ∈ A ++ N) | _ => false) id (fun i d hi => ?_) ?_
            · obtain ⟨c, hc, rfl⟩ := sgs_get hi
              refine ev_ ⟨.inl ⟨rfl, flat_sgs _⟩, ?_⟩
              rw [any_sgs]
              refine ev_ite (fun e => ?_) (fun e => ?_)
              · refine ⟨.inl ⟨rfl, flat_sgs _⟩, ?_⟩
                rw [any_sgs]
                refine ev_iteN (fun e2 => ?_) (fun e2 => ?_)
                · exact yK_c hi (by rw [sgs_len]; omega) (by show (decide (c ∈ frt G) && !decide (c ∈ A ++ N)) = true; rw [decide_eq_true e, decide_eq_false e2]; rfl) rfl
                · exact nK_c hi (by show (decide (c ∈ frt G) && !decide (c ∈ A ++ N)) = false; rw [decide_eq_true e, decide_eq_true e2]; rfl)
              · exact nK_c hi (by show (decide (c ∈ frt G) && !decide (c ∈ A ++ N)) = false; rw [decide_eq_false e]; rfl)
            · have e1 : ((sgs (ssN p)).filter (fun d => match d with | .str [c] => decide (c ∈ frt G) && !decide (c ∈ A ++ N) | _ => false)).map id = sgs ((ssN p).filter fun c => decide (c ∈ frt G) && !decide (c ∈ A ++ N)) := by
                rw [List.map_id, sgs_eq, sgs_eq, List.filter_map]; rfl
              rw [e1]
              have hM : ∀ c, c ∈ (ssN p).filter (fun c => decide (c ∈ frt G) && !decide (c ∈ A ++ N)) ↔ c ∈ p ∧ c ∈ frt G ∧ c ∉ A ++ N := fun c => by
                rw [List.mem_filter, ssN_mem, Bool.and_eq_true, decide_eq_true_iff]; simp
              have nM : ((ssN p).filter (fun c => decide (c ∈ frt G) && !decide (c ∈ A ++ N))).Nodup := (ssN_nodup _).sublist List.filter_sublist
              have hMl := List.length_filter_le (fun c => decide (c ∈ frt G) && !decide (c ∈ A ++ N)) (ssN p)
              generalize (ssN p).filter (fun c => decide (c ∈ frt G) && !decide (c ∈ A ++ N)) = M at hM nM hMl
              refine ev_ ⟨by rw [sgs_len, sgs_len, List.length_append]; omega, N ++ M, _, ?_, fun y hy => ?_, fun q hq hqf y hy hyf => ?_, by rw [← List.append_assoc, sgs_app (A ++ N)]⟩
              · rw [← List.append_assoc]
                exact List.nodup_append.mpr ⟨nN, nM, fun a ha b hb e => ((hM b).mp hb).2.2 (by rw [← e]; exact ha)⟩
              · rcases List.mem_append.mp hy with z | z
                · exact sN y z
                · exact ⟨p, hpm, hin.mp e, ((hM y).mp z).1, ((hM y).mp z).2.1⟩
              · rw [← List.append_assoc]
                rw [take_snoc hp] at hq
                rcases List.mem_append.mp hq with z | z
                · exact List.mem_append_left _ (cN q z hqf y hy hyf)
                · rw [List.mem_singleton.mp z] at hy
                  by_cases e2 : y ∈ A ++ N
                  · exact List.mem_append_left _ e2
                  · exact List.mem_append_right _ ((hM y).mpr ⟨hy, hyf, e2⟩)
          · refine ⟨N, _, nN, sN, fun q hq hqf y hy hyf => ?_, rfl⟩
            rw [take_snoc hp] at hq
            rcases List.mem_append.mp hq with z | z
            · exact cN q z hqf y hy hyf
            · rw [List.mem_singleton.mp z] at hqf
              rw [hin.mpr hqf] at e; cases e
      · rintro E ⟨N, z5, nN, sN, cN, rfl⟩
        rw [List.length_map, List.take_length] at cN
        refine ev_ ⟨4 - (t + 1), by omega, A ++ N, t + 1, _, nN, fun y hy => ?_, fun y hy => List.mem_append_left _ (tA y hy), fun j y hj hy z hz => ?_, by rw [List.length_append]; omega, rfl, rfl⟩
        · rcases List.mem_append.mp hy with e | e
          · exact sA y e
          · exact .nx (sA x hxA) (sN y e)
        · rw [List.getElem?_append_left (by omega)] at hy
          rcases Nat.lt_or_ge j t with e | e
          · exact List.mem_append_left _ (cA j y e hy z hz)
          · rw [show j = t by omega, hx] at hy
            cases hy
            obtain ⟨p, hp, h1, h2, h3⟩ := hz
            exact cN p hp h1 z h2 h3
    · have hmem : ∀ x, x ∈ A ↔ Us G h x := fun x => ⟨sA x, fun r => r.closed tA fun x hx y hy => by
        obtain ⟨j, hj, e⟩ := List.getElem_of_mem hx
        exact cA j x (by omega) (by rw [List.getElem?_eq_getElem hj, e]) y hy⟩
      refine ev_ ⟨sortOk_sgs (hG.okH hsub), ?_⟩
      rw [sort_sgs, usd_of hG hh nA hmem]
      exact k
theorem law__law_used : ∀ a0 a1 Pp, f__law_used a0 a1 Pp → LF N__law_used w__law_used [a0, a1] Pp := by
  rintro a0 a1 Pp ⟨G, h, rfl, rfl, hL, hh, k⟩
  have hG := hL.toGW
  have hfl := clo_len hG lowL
  have hfew := hG.few
  unfold N__law_used w__law_used gD
  walk_at "start"
  refine ev_ ⟨G, rfl, hL, ?_⟩
  refine ev_ ?_
  refine x_join (fun E => ∃ A : List Nat, A.Nodup ∧ (∀ x ∈ A, x = h ∧ h ∈ frt G) ∧ (h ∈ frt G → h ∈ A) ∧ E = [some (.dat (.dct false (kdD rowD (gmW G)))), some (.dat (.str [h])), some (.own (.lst (sgs (frt G)))), some (.own (.lst (sgs A))), none, none, none, none]) (fun nx' hn => ?_) ?_
  · refine ev_ ⟨.inl ⟨rfl, flat_sgs _⟩, ?_⟩
    rw [any_sgs]
    refine ev_ite (fun e => ?_) (fun e => ?_)
    · exact hn _ ⟨[h], by simp, fun x hx => ⟨List.mem_singleton.mp hx, e⟩, fun _ => by simp, rfl⟩
    · exact hn _ ⟨[], by simp, (fun x hx => by cases hx), fun z => (e z).elim, rfl⟩
  · rintro E ⟨A, nA, sA, tA, rfl⟩
    have sA : ∀ x ∈ A, Us G h x := fun x hx => .st (sA x hx)
    have tA : ∀ x, (x = h ∧ h ∈ frt G) → x ∈ A := fun x ⟨e, f⟩ => by rw [e]; exact tA f
    refine ev_ ?_
    rw [len_gD]
    refine ⟨⟨by omega, by omega⟩, ?_⟩
    refine x_forK (fun t E => ∃ (A : List Nat) (z4 z5 z6 : Option B), A.Nodup ∧ (∀ x ∈ A, Us G h x) ∧ (∀ x, (x = h ∧ h ∈ frt G) → x ∈ A) ∧ ((∀ x ∈ A, ∀ y, us G x y → y ∈ A) ∨ t ≤ A.length) ∧ E = [some (.dat (.dct false (kdD rowD (gmW G)))), some (.dat (.str [h])), some (.own (.lst (sgs (frt G)))), some (.own (.lst (sgs A))), z4, z5, z6, none]) ⟨A, _, _, _, nA, sA, tA, .inr (Nat.zero_le _), rfl⟩ ?_ ?_
    · rintro t d E ht ⟨A, z4, z5, z6, nA, sA, tA, cA, rfl⟩
      obtain ⟨htl, rfl⟩ := rng_get ht
      refine ev_ ?_
      refine x_forK (fun j E => ∃ (R : List Nat) (z5 z6 : Option B), R.Nodup ∧ (∀ x ∈ R, Us G h x) ∧ (∀ x ∈ A, x ∈ R) ∧ (∀ x ∈ A.take j, ∀ y, us G x y → y ∈ R) ∧ (R = A ∨ (A.length < R.length ∧ ¬ ∀ x ∈ A, ∀ y, us G x y → y ∈ A)) ∧ E = [some (.dat (.dct false (kdD rowD (gmW G)))), some (.dat (.str [h])), some (.own (.lst (sgs (frt G)))), some (.own (.lst (sgs R))), some (.dat (.int (0 + (t : Int)))), z5, z6, none]) ⟨A, _, _, nA, sA, fun x h => h, by simp, .inl rfl, rfl⟩ ?_ ?_
      · rintro j d E hj ⟨R, z5, z6, nR, sR, aR, cR, oR, rfl⟩
        obtain ⟨x, hx, rfl⟩ := sgs_get hj
        have hxA := List.mem_of_getElem? hx
        refine ev_ ⟨rfl, _, look_at (clo_sub (sA x hxA).frt), ?_⟩
        unfold rowD
        refine ev_ ?_
        refine x_forK (fun i E => ∃ (N : List Nat) (z6 : Option B), (R ++ N).Nodup ∧ (∀ y ∈ N, us G x y) ∧ (∀ p ∈ (rs G x).take i, (∀ c ∈ p, c ∈ hds G → c ∈ frt G) → ∀ y ∈ p, y ∈ frt G → y ∈ R ++ N) ∧ E = [some (.dat (.dct false (kdD rowD (gmW G)))), some (.dat (.str [h])), some (.own (.lst (sgs (frt G)))), some (.own (.lst (sgs (R ++ N)))), some (.dat (.int (0 + (t : Int)))), some (.dat (.str [x])), z6, none]) ⟨[], _, by rw [List.append_nil]; exact nR, (fun y hy => by cases hy), by simp, by rw [List.append_nil]⟩ ?_ ?_
        · rintro i d E hi ⟨N, z6, nN, sN, cN, rfl⟩
          obtain ⟨p, hp, rfl⟩ := map_get hi
          have hpm := List.mem_of_getElem? hp
          have hpl := (hG.rul x p hpm).1
          have hsN : ∀ y ∈ R ++ N, y ∈ frt G := fun y hy => by
            rcases List.mem_append.mp hy with e | e
            · exact (sR y e).frt
            · obtain ⟨_, _, _, _, e⟩ := sN y e; exact e
          have hlN := Nat.le_trans (nodup_len nN hsN) hfl
          rw [List.length_append] at hlN
          refine ev_ ?_
          refine x_lcM' (onC fun c => !decide (c ∈ hds G) || decide (c ∈ frt G)) (fun i d hi => ?_) ?_
          · obtain ⟨c, hc, rfl⟩ := map_get hi
            refine ev_ ⟨rfl, ?_⟩
            rw [in_gD]
            refine ev_iteN (fun e => ?_) (fun e => ?_)
            · refine yK_c hi (by rw [List.length_map]; omega) rfl ?_
              show _ = D.bl (!decide (c ∈ hds G) || decide (c ∈ frt G))
              rw [decide_eq_false e]; rfl
            · refine ⟨.inl ⟨rfl, flat_sgs _⟩, ?_⟩
              rw [any_sgs]
              refine yK_c hi (by rw [List.length_map]; omega) rfl ?_
              show _ = D.bl (!decide (c ∈ hds G) || decide (c ∈ frt G))
              rw [decide_eq_true e]; rfl
          · rw [map_onC]
            refine ev_ ?_
            rw [all_id]
            have hin : p.all (fun c => !decide (c ∈ hds G) || decide (c ∈ frt G)) = true ↔ ∀ c ∈ p, c ∈ hds G → c ∈ frt G := by
              rw [List.all_eq_true]
              constructor
              · intro z c hc hcG
                have := z c hc
                simpa [hcG] using this
              · intro z c hc
                by_cases y : c ∈ hds G
                · simp [z c hc y]
                · simp [y]
            refine ev_iteB (fun e => ?_) (fun e => ?_)
            · refine ⟨by omega, f_diff_sgs (by omega) ?_⟩
              have hdl := df_len p
              refine ev_ ?_
              refine x_lcF' (fun d => match d with | .str [c] => decide (c ∈ frt G) && !decide (c ∈ R ++ N) | _ => false) id (fun i d hi => ?_) ?_
              · obtain ⟨c, hc, rfl⟩ := sgs_get hi
                refine ev_ ⟨.inl ⟨rfl, flat_sgs _⟩, ?_⟩
                rw [any_sgs]
                refine ev_ite (fun e => ?_) (fun e => ?_)
                · refine ⟨.inl ⟨rfl, flat_sgs _⟩, ?_⟩
                  rw [any_sgs]
                  refine ev_iteN (fun e2 => ?_) (fun e2 => ?_)
                  · exact yK_c hi (by rw [sgs_len]; omega) (by show (decide (c ∈ frt G) && !decide (c ∈ R ++ N)) = true; rw [decide_eq_true e, decide_eq_false e2]; rfl) rfl
                  · exact nK_c hi (by show (decide (c ∈ frt G) && !decide (c ∈ R ++ N)) = false; rw [decide_eq_true e, decide_eq_true e2]; rfl)
                · exact nK_c hi (by show (decide (c ∈ frt G) && !decide (c ∈ R ++ N)) = false; rw [decide_eq_false e]; rfl)
              · have e1 : ((sgs (df [] p)).filter (fun d => match d with | .str [c] => decide (c ∈ frt G) && !decide (c ∈ R ++ N) | _ => false)).map id = sgs ((df [] p).filter fun c => decide (c ∈ frt G) && !decide (c ∈ R ++ N)) := by
                  rw [List.map_id, sgs_eq, sgs_eq, List.filter_map]; rfl
                rw [e1]
                have hM : ∀ c, c ∈ (df [] p).filter (fun c => decide (c ∈ frt G) && !decide (c ∈ R ++ N)) ↔ c ∈ p ∧ c ∈ frt G ∧ c ∉ R ++ N := fun c => by
                  rw [List.mem_filter, df_mem, Bool.and_eq_true, decide_eq_true_iff]; simp
                have nM : ((df [] p).filter (fun c => decide (c ∈ frt G) && !decide (c ∈ R ++ N))).Nodup := (df_nodup _).sublist List.filter_sublist
                have hMl := List.length_filter_le (fun c => decide (c ∈ frt G) && !decide (c ∈ R ++ N)) (df [] p)
                generalize (df [] p).filter (fun c => decide (c ∈ frt G) && !decide (c ∈ R ++ N)) = M at hM nM hMl
                refine ev_ ⟨by rw [sgs_len, sgs_len, List.length_append]; omega, N ++ M, _, ?_, fun y hy => ?_, fun q hq hqf y hy hyf => ?_, by rw [← List.append_assoc, sgs_app (R ++ N)]⟩
                · rw [← List.append_assoc]
                  exact List.nodup_append.mpr ⟨nN, nM, fun a ha b hb e => ((hM b).mp hb).2.2 (by rw [← e]; exact ha)⟩
                · rcases List.mem_append.mp hy with z | z
                  · exact sN y z
                  · exact ⟨p, hpm, hin.mp e, ((hM y).mp z).1, ((hM y).mp z).2.1⟩
                · rw [← List.append_assoc]
                  rw [take_snoc hp] at hq
                  rcases List.mem_append.mp hq with z | z
                  · exact List.mem_append_left _ (cN q z hqf y hy hyf)
                  · rw [List.mem_singleton.mp z] at hy
                    by_cases e2 : y ∈ R ++ N
                    · exact List.mem_append_left _ e2
                    · exact List.mem_append_right _ ((hM y).mpr ⟨hy, hyf, e2⟩)
            · refine ⟨N, _, nN, sN, fun q hq hqf y hy hyf => ?_, rfl⟩
              rw [take_snoc hp] at hq
              rcases List.mem_append.mp hq with z | z
              · exact cN q z hqf y hy hyf
              · rw [List.mem_singleton.mp z] at hqf
                rw [hin.mpr hqf] at e; cases e
        · rintro E ⟨N, z6, nN, sN, cN, rfl⟩
          rw [List.length_map, List.take_length] at cN
          refine ⟨R ++ N, _, _, nN, fun y hy => ?_, fun y hy => List.mem_append_left _ (aR y hy), fun y hy z hz => ?_, ?_, rfl⟩
          · rcases List.mem_append.mp hy with e | e
            · exact sR y e
            · exact .nx (sA x hxA) (sN y e)
          · rw [take_snoc hx] at hy
            rcases List.mem_append.mp hy with e | e
            · exact List.mem_append_left _ (cR y e z hz)
            · rw [List.mem_singleton.mp e] at hz
              obtain ⟨p, hp, h1, h2, h3⟩ := hz
              exact cN p hp h1 z h2 h3
          · cases N with
            | nil => rw [List.append_nil]; exact oR
            | cons a N =>
              have ha := sN a List.mem_cons_self
              have hd : a ∉ R := fun z => (List.nodup_append.mp nN).2.2 a z a List.mem_cons_self rfl
              refine .inr ⟨?_, fun z => hd (aR _ (z x hxA a ha))⟩
              rw [List.length_append, List.length_cons]
              rcases oR with e | ⟨e, _⟩
              · rw [e]; omega
              · omega
      · rintro E ⟨R, z5, z6, nR, sR, aR, cR, oR, rfl⟩
        rw [sgs_len, List.take_length] at cR
        refine ⟨R, _, _, _, nR, sR, fun x hx => aR x (tA x hx), ?_, rfl⟩
        rcases oR with e | ⟨e1, e2⟩
        · subst e; exact .inl cR
        · rcases cA with z | z
          · exact (e2 z).elim
          · exact .inr (by omega)
    · rintro E ⟨A, z4, z5, z6, nA, sA, tA, cA, rfl⟩
      have hsub : ∀ x ∈ A, x ∈ hds G := fun x hx => clo_sub (sA x hx).frt
      rw [rng_len, show ((G.length : Int)).toNat = G.length by omega] at cA
      have cA : ∀ x ∈ A, ∀ y, us G x y → y ∈ A := by
        rcases cA with z | z
        · exact z
        · exact fun x hx y hy => full_closed (H := hds G) (by unfold hds; rw [List.length_map]; exact z) nA hsub y (by
            obtain ⟨_, _, _, _, e⟩ := hy; exact clo_sub e)
      have hmem : ∀ x, x ∈ A ↔ Us G h x := fun x => ⟨sA x, fun r => r.closed tA cA⟩
      refine ev_ ⟨sortOk_sgs (hG.okH hsub), ?_⟩
      rw [sort_sgs, usd_of hG hh nA hmem]
      exact k

end PW

set_option Elab.async false
set_option linter.all false
set_option autoImplicit false
set_option maxRecDepth 100000
set_option maxHeartbeats 4000000
set_option synthInstance.maxHeartbeats 2000000
set_option synthInstance.maxSize 1000000
set_option exponentiation.threshold 5000
namespace PW
open PySem PySem.Spec PyProof.Rows L2
local macro_rules | `(tactic| walk_at "sta") => `(tactic| with_reducible repeat (first | exact StaR.z | apply StaR.c | apply StaR.n))
local macro_rules | `(tactic| walk_at "start") => `(tactic| with_reducible first | refine LF2 (by walk_at "sta") ?_ | refine LF1 (by walk_at "sta") ?_ | refine LF3 (by walk_at "sta") ?_ | refine LF4 (by walk_at "sta") ?_ | refine LF0 (by walk_at "sta") ?_ | refine LF5 (by walk_at "sta") ?_ | refine LF6 (by walk_at "sta") ?_ | refine LP0 (by walk_at "sta") ?_ | refine LP1 (by walk_at "sta") ?_ | refine LP2 (by walk_at "sta") ?_ | refine LP3 (by walk_at "sta") ?_ | refine LL1_0 (by walk_at "sta") ?_ | refine LL2_0 (by walk_at "sta") ?_ | refine LL2_1 (by walk_at "sta") ?_ | refine LL3_0 (by walk_at "sta") ?_ | refine LL3_1 (by walk_at "sta") ?_ | refine LL3_2 (by walk_at "sta") ?_ | refine LL4_0 (by walk_at "sta") ?_ | refine LL4_1 (by walk_at "sta") ?_ | refine LL4_2 (by walk_at "sta") ?_ | refine LL4_3 (by walk_at "sta") ?_ | refine LL5_0 (by walk_at "sta") ?_ | refine LL5_1 (by walk_at "sta") ?_ | refine LL5_2 (by walk_at "sta") ?_ | refine LL5_3 (by walk_at "sta") ?_ | refine LL5_4 (by walk_at "sta") ?_)
/-! ### least lengths, shortest words: what the defs promise -/
def intD (n : Nat) : D := .int (n : Nat)
def Ml (G : Gm) (h n : Nat) : Prop := (∃ w, Gr G [h] w ∧ w.length = n) ∧ ∀ w, Gr G [h] w → n ≤ w.length
/-- entries by heads, each once -/
def Keyd {α : Type} (G : Gm) (fd : List (Wo × α)) : Prop := ∃ K : List Nat, fd.map (·.1) = K.map (fun c => [c]) ∧ K.Nodup ∧ ∀ c ∈ K, c ∈ hds G
structure Least (G : Gm) (fd : List (Wo × Nat)) : Prop where
  key : Keyd G fd
  val : ∀ h ∈ hds G, ∀ n, lk fd [h] = some n ↔ Ml G h n
def f_least_lengths : D → (B → Prop) → Prop := fun g P => ∃ G : Gm, g = gD G ∧ GL G ∧ ∀ fd, Least G fd → P (.own (.dct false (kdD intD fd)))
def f__law_lengths : D → (B → Prop) → Prop := fun g P => ∃ G : Gm, g = gD G ∧ GL G ∧ ∀ fd, Least G fd → P (.own (.dct false (kdD intD fd)))
def abW (w : Wo) : Prop := ∀ c ∈ w, c = 97 ∨ c = 98
/-- the first of the shortest words of h -/
def Sw (G : Gm) (h : Nat) (w : Wo) : Prop := Gr G [h] w ∧ abW w ∧ w.length ≤ 81 ∧ ∀ v, Gr G [h] v → w.length ≤ v.length ∧ (v.length = w.length → leW w v = true)
def f_shortest_word : D → D → (B → Prop) → Prop := fun g h P => ∃ (G : Gm) (c : Nat), g = gD G ∧ h = .str [c] ∧ GL G ∧ c ∈ hds G ∧ ((¬ ∃ w, Gr G [c] w) → P (.dat .non)) ∧ ∀ w, Sw G c w → P (.dat (.str w))

def N_least_lengths : Nat := 7
-- 0:grammar 1:found 2:changed 3:head 4:sprout 5:length 6:sign
def w_least_lengths : WS :=
  (sSeq (sSet 1 (wDct0 false))
  (sSeq (sSet 2 (wC (.bl true)))
  (sSeq (sWhile (wTru (oV 2)) (sSeq (sSet 2 (wC (.bl false)))
  (sFor (iS (wUn wSortK (oV 0))) (gN 3) (sFor (iS (wOp wIx (oV 0) (oV 3))) (gN 4) (sIf (wTst (wUn wAll (oE (wLc (iS (wV 4)) (gN 6) wYes (wOrV (wOp wIn (oV 6) (oE (wC (.str lowL)))) (wOp wIn (oV 6) (oV 1))) [6])))) (sSeq (sSet 5 (wUn wSum (oE (wLc (iS (wV 4)) (gN 6) wYes (wIf (wTst (wOp wIn (oV 6) (oE (wC (.str lowL))))) (wC (.int 1)) (wOp wIx (oV 1) (oV 6))) [6]))))
  (sIf (wOr (wTst (wOp wNin (oV 3) (oV 1))) (wTst (wOp wLt (oV 5) (oE (wOp wIx (oV 1) (oV 3)))))) (sSeq (sSub 1 (wV 3) (wV 5))
  (sSet 2 (wC (.bl true)))) sNext)) sNext)))))
  (sRet (wM 1)))))
def N_shortest_word : Nat := 9
-- 0:grammar 1:head 2:least 3:best 4:changed 5:one 6:sprout 7:word 8:sign
def w_shortest_word : WS :=
  (sSeq (sSet 2 (wCall (fs1 f_least_lengths) (aC (wV 0) aN)))
  (sSeq (sSet 3 (wDct0 false))
  (sSeq (sSet 4 (wC (.bl true)))
  (sSeq (sWhile (wTru (oV 4)) (sSeq (sSet 4 (wC (.bl false)))
  (sFor (iS (wUn wSortK (oV 2))) (gN 5) (sFor (iS (wOp wIx (oV 0) (oV 5))) (gN 6) (sIf (wTst (wUn wAll (oE (wLc (iS (wV 6)) (gN 8) wYes (wOrV (wOp wIn (oV 8) (oE (wC (.str lowL)))) (wOp wIn (oV 8) (oV 3))) [8])))) (sSeq (sSet 7 (wMt1 "str" wJoin (oE (wC (.str []))) (oE (wLc (iS (wV 6)) (gN 8) wYes (wIf (wTst (wOp wIn (oV 8) (oE (wC (.str lowL))))) (wV 8) (wOp wIx (oV 3) (oV 8))) [8]))))
  (sIf (wAnd (wTst (wOp wEq (oE (wUn wLen (oV 7))) (oE (wOp wIx (oV 2) (oV 5))))) (wOr (wTst (wOp wNin (oV 5) (oV 3))) (wTst (wOp wLt (oV 7) (oE (wOp wIx (oV 3) (oV 5))))))) (sSeq (sSub 3 (wV 5) (wV 7))
  (sSet 4 (wC (.bl true)))) sNext)) sNext)))))
  (sRet (wGet1 (oV 3) (oV 1)))))))
def N__law_lengths : Nat := 7
-- 0:grammar 1:found 2:turn 3:head 4:sprout 5:length 6:sign
def w__law_lengths : WS :=
  (sSeq (sSet 1 (wDct0 false))
  (sSeq (sFor (iR1 (wC (.int 20))) (gN 2) (sFor (iS (wUn wSortK (oV 0))) (gN 3) (sFor (iS (wOp wIx (oV 0) (oV 3))) (gN 4) (sIf (wTst (wUn wAll (oE (wLc (iS (wV 4)) (gN 6) wYes (wOrV (wOp wNin (oV 6) (oV 0)) (wOp wIn (oV 6) (oV 1))) [6])))) (sSeq (sSet 5 (wUn wSum (oE (wLc (iS (wV 4)) (gN 6) wYes (wIf (wTst (wOp wIn (oV 6) (oV 0))) (wOp wIx (oV 1) (oV 6)) (wC (.int 1))) [6]))))
  (sSub 1 (wV 3) (wOp wMin2 (oE (wGet2 (oV 1) (oV 3) (oV 5))) (oV 5)))) sNext))))
  (sRet (wM 1))))
theorem GL.abw {G : Gm} (h : GL G) {s w : Wo} (g : Gr G s w) (hs : ∀ c ∈ s, c ∈ hds G ∨ c = 97 ∨ c = 98) : abW w := by
  induction g with
  | nil => intro c hc; cases hc
  | @lt d s w hn _ ih =>
    intro c hc
    rcases List.mem_cons.mp hc with z | z
    · rw [z]
      rcases hs d List.mem_cons_self with y | y
      · exact (hn y).elim
      · exact y
    · exact ih (fun x hx => hs x (List.mem_cons_of_mem _ hx)) c z
  | @hd q p u s w hq _ _ ih1 ih2 =>
    intro c hc
    rcases List.mem_append.mp hc with z | z
    · exact ih1 (h.ab q p hq) c z
    · exact ih2 (fun x hx => hs x (List.mem_cons_of_mem _ hx)) c z
theorem GrN.short {G : Gm} (hG : GW G) {n : Nat} {s w : Wo} (g : GrN G n s w) : w.length ≤ 3 ^ n * s.length := by
  induction g with
  | nil => simp
  | @lt n c s w _ _ ih =>
    rw [List.length_cons, List.length_cons, Nat.mul_succ]
    have := Nat.one_le_pow n 3 (by omega)
    omega
  | @hd n h p u s w hp _ _ ih1 ih2 =>
    rw [List.length_append, List.length_cons, Nat.mul_succ]
    have h1 := (hG.rul h p hp).1
    have h2 := Nat.mul_le_mul_left (3 ^ n) h1
    rw [Nat.pow_succ] at ih2 ⊢
    omega
theorem GrN.gr {G : Gm} {n : Nat} {s w : Wo} (g : GrN G n s w) : Gr G s w := by
  induction g with
  | nil => exact .nil
  | lt h1 _ ih => exact .lt h1 ih
  | hd hp _ _ ih1 ih2 => exact .hd hp ih1 ih2
theorem Ml.small {G : Gm} (hG : GW G) {h n : Nat} (m : Ml G h n) : n ≤ 81 := by
  obtain ⟨⟨w, g, _⟩, hm⟩ := m
  obtain ⟨v, gv, _⟩ := g.low hG.hl
  have h1 := gv.short hG
  have h2 := hm v (GrN.gr gv)
  have e : 3 ^ 4 * ([h] : Wo).length = 81 := rfl
  omega
section
variable {α : Type}
theorem lk_pt (fd : List (Wo × α)) (k k' : Wo) (v : α) : lk (pt fd k v) k' = if k' = k then some v else lk fd k' := by
  induction fd with
  | nil =>
    unfold pt lk
    simp only [List.any_nil, Bool.false_eq_true, if_false, List.nil_append, List.find?_cons, List.find?_nil]
    by_cases h : k' = k
    · subst h; simp
    · have : decide (k = k') = false := decide_eq_false fun e => h e.symm
      simp [this, h]
  | cons p fd ih =>
    unfold pt lk at *
    by_cases hp : p.1 = k
    · have h1 : ((p :: fd).any fun p => decide (p.1 = k)) = true := by simp [hp]
      rw [if_pos h1, List.map_cons, if_pos hp, List.find?_cons, List.find?_cons]
      by_cases h : k' = k
      · subst h; simp [hp]
      · have e1 : decide (p.1 = k') = false := decide_eq_false fun e => h (e.symm.trans hp)
        simp only [e1, h, if_false]
        by_cases h2 : (fd.any fun p => decide (p.1 = k)) = true
        · rw [if_pos h2, if_neg h] at ih
          exact ih
        · have : fd.map (fun p => if p.1 = k then (p.1, v) else p) = fd := by
            rw [List.map_congr_left (g := id) fun q hq => ?_, List.map_id]
            rw [if_neg]; rfl
            intro e
            exact h2 (List.any_eq_true.mpr ⟨q, hq, decide_eq_true e⟩)
          rw [this]
    · have h1 : ((p :: fd).any fun p => decide (p.1 = k)) = fd.any fun p => decide (p.1 = k) := by simp [hp]
      rw [h1]
      by_cases h2 : (fd.any fun p => decide (p.1 = k)) = true
      · rw [if_pos h2] at ih ⊢
        rw [List.map_cons, if_neg hp, List.find?_cons, List.find?_cons]
        by_cases h : p.1 = k'
        · rw [decide_eq_true h]
          have : ¬ k' = k := fun e => hp (h.trans e)
          simp [this]
        · rw [decide_eq_false h]
          exact ih
      · rw [if_neg h2] at ih ⊢
        rw [List.cons_append, List.find?_cons, List.find?_cons]
        by_cases h : p.1 = k'
        · rw [decide_eq_true h]
          have : ¬ k' = k := fun e => hp (h.trans e)
          simp [this]
        · rw [decide_eq_false h]
          exact ih
theorem lk_none {fd : List (Wo × α)} {k : Wo} : lk fd k = none ↔ k ∉ fd.map (·.1) := by
  unfold lk
  rw [Option.map_eq_none_iff, List.find?_eq_none, List.mem_map]
  constructor
  · rintro h ⟨p, hp, e⟩
    have := h p hp
    simp [e] at this
  · intro h p hp
    rw [decide_eq_true_iff]
    exact fun e => h ⟨p, hp, e⟩
theorem pt_keys {fd : List (Wo × α)} {k : Wo} {v : α} : (pt fd k v).map (·.1) = if k ∈ fd.map (·.1) then fd.map (·.1) else fd.map (·.1) ++ [k] := by
  unfold pt
  by_cases h : (fd.any fun p => decide (p.1 = k)) = true
  · rw [if_pos h]
    obtain ⟨p, hp, e⟩ := List.any_eq_true.mp h
    rw [if_pos (List.mem_map.mpr ⟨p, hp, of_decide_eq_true e⟩), List.map_map]
    apply List.map_congr_left
    intro q _
    show (if q.1 = k then (q.1, v) else q).1 = q.1
    split <;> rfl
  · rw [if_neg h, if_neg]
    · rw [List.map_append]; rfl
    · intro hk
      obtain ⟨p, hp, e⟩ := List.mem_map.mp hk
      exact h (List.any_eq_true.mpr ⟨p, hp, decide_eq_true e⟩)
theorem Keyd.nil {G : Gm} : Keyd G ([] : List (Wo × α)) := ⟨[], rfl, .nil, fun c h => by cases h⟩
theorem Keyd.put {G : Gm} {fd : List (Wo × α)} (k : Keyd G fd) {h : Nat} (hh : h ∈ hds G) (v : α) : Keyd G (pt fd [h] v) := by
  obtain ⟨K, e, nK, sK⟩ := k
  rw [Keyd, pt_keys, e]
  by_cases z : h ∈ K
  · rw [if_pos (List.mem_map.mpr ⟨h, z, rfl⟩)]
    exact ⟨K, rfl, nK, sK⟩
  · rw [if_neg fun y => by
      obtain ⟨c, hc, e⟩ := List.mem_map.mp y
      exact z (by cases e; exact hc)]
    refine ⟨K ++ [h], by simp, ?_, fun c hc => ?_⟩
    · rw [List.nodup_append]
      exact ⟨nK, by simp, fun a ha b hb e => z (by rw [← List.mem_singleton.mp hb, ← e]; exact ha)⟩
    · rcases List.mem_append.mp hc with y | y
      · exact sK c y
      · rw [List.mem_singleton.mp y]; exact hh
theorem Keyd.len {G : Gm} (hG : GW G) {fd : List (Wo × α)} (k : Keyd G fd) : fd.length ≤ 4 := by
  obtain ⟨K, e, nK, sK⟩ := k
  have := congrArg List.length e
  rw [List.length_map, List.length_map] at this
  have := nodup_len nK sK
  have := hG.hl
  omega
end
/-- a sum over heads falls where one item falls -/
theorem sum_fall {f g : Nat → Nat} {a : Nat} : ∀ {H : List Nat}, H.Nodup → a ∈ H → (∀ x ∈ H, x ≠ a → g x = f x) → g a < f a → (H.map g).sum < (H.map f).sum
  | [], _, h, _, _ => by cases h
  | b :: H, nd, h, e, l => by
    obtain ⟨h1, h2⟩ := List.nodup_cons.mp nd
    rw [List.map_cons, List.map_cons, List.sum_cons, List.sum_cons]
    by_cases z : a = b
    · subst z
      have : H.map g = H.map f := List.map_congr_left fun x hx => e x (List.mem_cons_of_mem _ hx) fun y => h1 (by rw [← y]; exact hx)
      rw [this]; omega
    · have ha : a ∈ H := (List.mem_cons.mp h).elim (fun y => (z y).elim) id
      have := sum_fall h2 ha (fun x hx => e x (List.mem_cons_of_mem _ hx)) l
      rw [e b List.mem_cons_self fun y => z y.symm]
      omega
/-! #### lengths -/
def IsF (G : Gm) {α : Type} (fd : List (Wo × α)) (p : Wo) : Prop := ∀ c ∈ p, c ∈ hds G → (lk fd [c]).isSome = true
def lv (G : Gm) (fd : List (Wo × Nat)) (c : Nat) : Nat := if c ∈ hds G then (lk fd [c]).getD 0 else 1
def sm (G : Gm) (fd : List (Wo × Nat)) (p : Wo) : Nat := (p.map (lv G fd)).sum
structure LI (G : Gm) (fd : List (Wo × Nat)) : Prop where
  key : Keyd G fd
  snd : ∀ h ∈ hds G, ∀ n, lk fd [h] = some n → ∃ w, Gr G [h] w ∧ w.length = n
theorem LI.grow {G : Gm} {fd : List (Wo × Nat)} (L : LI G fd) : ∀ {p : Wo}, IsF G fd p → ∃ w, Gr G p w ∧ w.length = sm G fd p
  | [], _ => ⟨[], .nil, rfl⟩
  | c :: p, h => by
    obtain ⟨w, gw, ew⟩ := L.grow (p := p) fun d hd => h d (List.mem_cons_of_mem _ hd)
    unfold sm at *
    rw [List.map_cons, List.sum_cons]
    by_cases z : c ∈ hds G
    · obtain ⟨n, e⟩ := Option.isSome_iff_exists.mp (h c List.mem_cons_self z)
      obtain ⟨u, gu, eu⟩ := L.snd c z n e
      refine ⟨u ++ w, gu.app (s := [c]) gw, ?_⟩
      unfold lv at *
      rw [if_pos z, e, List.length_append, eu, ew]; rfl
    · refine ⟨c :: w, .lt z gw, ?_⟩
      rw [List.length_cons, ew]
      unfold lv
      rw [if_neg z]
      omega
theorem LI.put {G : Gm} {fd : List (Wo × Nat)} (L : LI G fd) {h : Nat} {p : Wo} (hp : p ∈ rs G h) (hf : IsF G fd p) : LI G (pt fd [h] (sm G fd p)) := by
  refine ⟨L.key.put (rs_head hp) _, fun x hx n e => ?_⟩
  rw [lk_pt] at e
  split at e
  · rename_i z
    cases e
    have z : x = h := by simpa using z
    rw [z]
    obtain ⟨w, gw, ew⟩ := L.grow hf
    exact ⟨w, .one hp gw, ew⟩
  · exact L.snd x hx n e
def Closed (G : Gm) (fd : List (Wo × Nat)) (h : Nat) (p : Wo) : Prop := IsF G fd p → ∃ n, lk fd [h] = some n ∧ n ≤ sm G fd p
theorem closed_all {G : Gm} {fd : List (Wo × Nat)} (hc : ∀ h ∈ hds G, ∀ p ∈ rs G h, Closed G fd h p) {s w : Wo} (g : Gr G s w) : IsF G fd s ∧ sm G fd s ≤ w.length := by
  induction g with
  | nil => exact ⟨(fun c h => by cases h), Nat.le_refl _⟩
  | @lt c s w hn _ ih =>
    refine ⟨fun d hd hdG => ?_, ?_⟩
    · rcases List.mem_cons.mp hd with z | z
      · rw [z] at hdG; exact (hn hdG).elim
      · exact ih.1 d z hdG
    · have := ih.2
      unfold sm at *
      rw [List.map_cons, List.sum_cons, List.length_cons]
      have : lv G fd c = 1 := by unfold lv; rw [if_neg hn]
      omega
  | @hd h p u s w hp _ _ ih1 ih2 =>
    obtain ⟨n, e, hl⟩ := hc h (rs_head hp) p hp ih1.1
    refine ⟨fun d hd hdG => ?_, ?_⟩
    · rcases List.mem_cons.mp hd with z | z
      · rw [z, e]; rfl
      · exact ih2.1 d z hdG
    · have h1 := ih1.2
      have h2 := ih2.2
      unfold sm at *
      rw [List.map_cons, List.sum_cons, List.length_append]
      have : lv G fd h = n := by unfold lv; rw [if_pos (rs_head hp), e]; rfl
      omega
theorem LI.least {G : Gm} {fd : List (Wo × Nat)} (L : LI G fd) (hc : ∀ h ∈ hds G, ∀ w, Gr G [h] w → ∃ n, lk fd [h] = some n ∧ n ≤ w.length) : Least G fd := by
  refine ⟨L.key, fun h hh n => ⟨fun e => ⟨L.snd h hh n e, fun w g => ?_⟩, fun m => ?_⟩⟩
  · obtain ⟨m, em, hm⟩ := hc h hh w g
    rw [e] at em; cases em; exact hm
  · obtain ⟨⟨w, g, ew⟩, hm⟩ := m
    obtain ⟨m, em, hl⟩ := hc h hh w g
    obtain ⟨v, gv, ev⟩ := L.snd h hh m em
    have := hm v gv
    rw [em]
    congr 1
    omega
def mu (G : Gm) (fd : List (Wo × Nat)) : Nat := ((hds G).map fun h => (lk fd [h]).getD 1000).sum
theorem mu_fall {G : Gm} (hG : GW G) {fd : List (Wo × Nat)} {h n : Nat} (hh : h ∈ hds G) (hn : n < 1000) (hl : ∀ m, lk fd [h] = some m → n < m) : mu G (pt fd [h] n) < mu G fd := by
  refine sum_fall hG.nd hh (fun x _ hx => ?_) ?_
  · rw [lk_pt, if_neg fun e => hx (by simpa using e)]
  · rw [lk_pt, if_pos rfl]
    cases e : lk fd [h] with
    | none => exact hn
    | some m => exact hl m e
theorem look_int (fd : List (Wo × Nat)) (c : Nat) : lookD (kdD intD fd) (.str [c]) = (lk fd [c]).map intD := lookD_kdD intD [c] fd
theorem sm_small {G : Gm} {fd : List (Wo × Nat)} {p : Wo} {N : Nat} (hp : p.length ≤ 3) (hN : 1 ≤ N) (h : ∀ q ∈ fd, q.2 ≤ N) : sm G fd p ≤ 3 * N := by
  have hlv : ∀ c, lv G fd c ≤ N := fun c => by
    unfold lv
    split
    · cases e : lk fd [c] with
      | none => exact Nat.zero_le _
      | some n =>
        unfold lk at e
        obtain ⟨q, hq, e⟩ := Option.map_eq_some_iff.mp e
        have := h q (List.mem_of_find?_eq_some hq)
        rw [e] at this
        exact this
    · exact hN
  have : ∀ p : Wo, (p.map (lv G fd)).sum ≤ p.length * N := fun p => by
    induction p with
    | nil => simp
    | cons a p ih => rw [List.map_cons, List.sum_cons, List.length_cons, Nat.succ_mul]; have := hlv a; omega
  have := this p
  have := Nat.mul_le_mul_right N hp
  unfold sm
  omega
theorem pt_bound {fd : List (Wo × Nat)} {k : Wo} {n N : Nat} (h : ∀ q ∈ fd, q.2 ≤ N) (hn : n ≤ N) : ∀ q ∈ pt fd k n, q.2 ≤ N := fun q hq => by
  rcases pt_mem hq with e | e
  · rw [e]; exact hn
  · exact h q e
theorem pt_length {α : Type} (fd : List (Wo × α)) (k : Wo) (v : α) : (pt fd k v).length = if k ∈ fd.map (·.1) then fd.length else fd.length + 1 := by
  have := congrArg List.length (pt_keys (fd := fd) (k := k) (v := v))
  rw [List.length_map] at this
  rw [this]
  split <;> simp
theorem law_least_lengths : ∀ a0 Pp, f_least_lengths a0 Pp → LF N_least_lengths w_least_lengths [a0] Pp := by
  rintro a0 Pp ⟨G, rfl, hL, k⟩
  have hG := hL.toGW
  unfold N_least_lengths w_least_lengths gD
  walk_at "start"
  refine ev_ ?_
  refine x_while (fun r E => ∃ (fd : List (Wo × Nat)) (b : Bool) (z3 z4 z5 : Option B), LI G fd ∧ (∀ q ∈ fd, q.2 ≤ 3 ^ fd.length) ∧ (b = false → ∀ h ∈ hds G, ∀ p ∈ rs G h, Closed G fd h p) ∧ r = 2 * mu G fd + (if b = true then 1 else 0) ∧ E = [some (.dat (.dct false (kdD rowD (gmW G)))), some (.own (.dct false (kdD intD fd))), some (.dat (.bl b)), z3, z4, z5, none]) _ ⟨[], true, _, _, _, ⟨.nil, fun h _ n e => by cases e⟩, (fun q h => by cases h), (fun h => by cases h), rfl, rfl⟩ ?_
  rintro r E ⟨fd, b, z3, z4, z5, hI, hb, cl, rfl, rfl⟩
  cases b with
  | false =>
    refine ev_ ?_
    refine ev_ (k fd (hI.least fun h hh w g => ?_))
    obtain ⟨h1, h2⟩ := closed_all (cl rfl) g
    obtain ⟨n, e⟩ := Option.isSome_iff_exists.mp (h1 h List.mem_cons_self hh)
    refine ⟨n, e, ?_⟩
    have : sm G fd [h] = n := by unfold sm lv; simp [hh, e]
    omega
  | true =>
    clear cl
    refine ev_ ⟨(hds G).map (fun c => [c]), keys_gD' G, ?_⟩
    rw [sort_gD]
    refine x_forK (fun i E => ∃ (fd' : List (Wo × Nat)) (b : Bool) (z3 z4 z5 : Option B), LI G fd' ∧ (∀ q ∈ fd', q.2 ≤ 3 ^ fd'.length) ∧ (b = false → fd' = fd ∧ ∀ h ∈ (sh G).take i, ∀ p ∈ rs G h, Closed G fd' h p) ∧ (b = true → mu G fd' < mu G fd) ∧ E = [some (.dat (.dct false (kdD rowD (gmW G)))), some (.own (.dct false (kdD intD fd'))), some (.dat (.bl b)), z3, z4, z5, none]) ⟨fd, false, z3, z4, z5, hI, hb, fun _ => ⟨rfl, by simp⟩, (fun h => by cases h), rfl⟩ ?_ ?_
    · rintro i d E hi ⟨fd', b, z3, z4, z5, hI, hb, c1, c2, rfl⟩
      obtain ⟨h, hh, rfl⟩ := sgs_get hi
      have hhG := GW.sh_mem.mp (List.mem_of_getElem? hh)
      refine ev_ ⟨rfl, _, look_at hhG, ?_⟩
      unfold rowD
      refine ev_ ?_
      refine x_forK (fun j E => ∃ (fd' : List (Wo × Nat)) (b : Bool) (z4 z5 : Option B), LI G fd' ∧ (∀ q ∈ fd', q.2 ≤ 3 ^ fd'.length) ∧ (b = false → fd' = fd ∧ (∀ h ∈ (sh G).take i, ∀ p ∈ rs G h, Closed G fd' h p) ∧ ∀ p ∈ (rs G h).take j, Closed G fd' h p) ∧ (b = true → mu G fd' < mu G fd) ∧ E = [some (.dat (.dct false (kdD rowD (gmW G)))), some (.own (.dct false (kdD intD fd'))), some (.dat (.bl b)), some (.dat (.str [h])), z4, z5, none]) ⟨fd', b, z4, z5, hI, hb, fun e => ⟨(c1 e).1, (c1 e).2, by simp⟩, c2, rfl⟩ ?_ ?_
      · clear hI hb c1 c2 b fd'
        rintro j d E hj ⟨fd', b, z4, z5, hI, hb, c1, c2, rfl⟩
        obtain ⟨p, hp, rfl⟩ := map_get hj
        have hpm := List.mem_of_getElem? hp
        have hpl := (hG.rul h p hpm).1
        have hlen := hI.key.len hG
        refine ev_ ?_
        refine x_lcM' (onC fun c => decide (c ∈ lowL) || (lk fd' [c]).isSome) (fun i d hi => ?_) ?_
        · obtain ⟨c, hc, rfl⟩ := map_get hi
          refine ev_ ?_
          refine ev_ite (fun e => ?_) (fun e => ?_)
          · refine yK_c hi (by rw [List.length_map]; omega) rfl ?_
            show _ = D.bl (decide (c ∈ lowL) || (lk fd' [c]).isSome)
            rw [decide_eq_true e]; rfl
          · refine ⟨rfl, ?_⟩
            rw [look_int, Option.isSome_map]
            refine yK_c hi (by rw [List.length_map]; omega) rfl ?_
            show _ = D.bl (decide (c ∈ lowL) || (lk fd' [c]).isSome)
            rw [decide_eq_false e]; rfl
        · rw [map_onC]
          refine ev_ ?_
          rw [all_id]
          have hin : p.all (fun c => decide (c ∈ lowL) || (lk fd' [c]).isSome) = true ↔ IsF G fd' p := by
            rw [List.all_eq_true]
            refine ⟨fun z c hc hcG => ?_, fun z c hc => ?_⟩
            · have := z c hc
              rw [Bool.or_eq_true, decide_eq_true_iff, hL.low hpm hc] at this
              exact this.elim (fun y => (y hcG).elim) id
            · rw [Bool.or_eq_true, decide_eq_true_iff, hL.low hpm hc]
              by_cases y : c ∈ hds G
              · exact .inr (z c hc y)
              · exact .inl y
          have stay : ∀ (z5 : Option B), Closed G fd' h p → ∃ (fd'_1 : List (Wo × Nat)) (b_1 : Bool) (z4_1 z5_1 : Option B), LI G fd'_1 ∧ (∀ q ∈ fd'_1, q.2 ≤ 3 ^ fd'_1.length) ∧ (b_1 = false → fd'_1 = fd ∧ (∀ h ∈ (sh G).take i, ∀ p ∈ rs G h, Closed G fd'_1 h p) ∧ ∀ p ∈ (rs G h).take (j + 1), Closed G fd'_1 h p) ∧ (b_1 = true → mu G fd'_1 < mu G fd) ∧ [some (.dat (.dct false (kdD rowD (gmW G)))), some (.own (.dct false (kdD intD fd'))), some (.dat (.bl b)), some (.dat (.str [h])), some (.dat (.str p)), z5, none] = [some (.dat (.dct false (kdD rowD (gmW G)))), some (.own (.dct false (kdD intD fd'_1))), some (.dat (.bl b_1)), some (.dat (.str [h])), z4_1, z5_1, none] := fun z5 hc => by
            refine ⟨fd', b, _, _, hI, hb, fun e => ⟨(c1 e).1, (c1 e).2.1, fun q hq => ?_⟩, c2, rfl⟩
            rw [take_snoc hp] at hq
            rcases List.mem_append.mp hq with y | y
            · exact (c1 e).2.2 q y
            · rw [List.mem_singleton.mp y]; exact hc
          refine ev_iteB (fun e => ?_) (fun e => ?_)
          · have hF := hin.mp e
            refine x_lcM' (fun d => match d with | .str [c] => .int (lv G fd' c : Nat) | _ => .non) (fun i d hi => ?_) ?_
            · obtain ⟨c, hc, rfl⟩ := map_get hi
              have hcp := List.mem_of_getElem? hc
              refine ev_ ?_
              refine ev_ite (fun e => ?_) (fun e => ?_)
              · refine yK_c hi (by rw [List.length_map]; omega) rfl ?_
                show _ = D.int (lv G fd' c : Nat)
                unfold lv
                rw [if_neg ((hL.low hpm hcp).mp e)]; rfl
              · have hcG : c ∈ hds G := Classical.byContradiction fun z => e ((hL.low hpm hcp).mpr z)
                obtain ⟨n, en⟩ := Option.isSome_iff_exists.mp (hF c hcp hcG)
                refine ⟨rfl, intD n, by rw [look_int, en]; rfl, ?_⟩
                refine yK_c hi (by rw [List.length_map]; omega) rfl ?_
                show _ = D.int (lv G fd' c : Nat)
                unfold lv
                rw [if_pos hcG, en]; rfl
            · have e1 : (p.map fun c => D.str [c]).map (fun d : D => match d with | .str [c] => .int (lv G fd' c : Nat) | _ => .non) = (p.map fun c => ((lv G fd' c : Nat) : Int)).map D.int := by rw [List.map_map, List.map_map]; rfl
              rw [e1]
              refine ev_ ?_
              have e2 : (p.map fun c => ((lv G fd' c : Nat) : Int)).sum = ((sm G fd' p : Nat) : Int) := by
                unfold sm
                clear hp hpm hpl hin stay hF e e1 hj
                induction p with
                | nil => rfl
                | cons a p ih => rw [List.map_cons, List.sum_cons, ih, List.map_cons, List.sum_cons]; norm_cast
              rw [e2]
              have hsm := sm_small (G := G) (fd := fd') hpl (Nat.one_le_pow fd'.length 3 (by omega)) hb
              have hpow : 3 ^ fd'.length ≤ 3 ^ 4 := Nat.pow_le_pow_right (by omega) hlen
              have upd : (∀ m, lk fd' [h] = some m → sm G fd' p < m) → ∃ (fd'_1 : List (Wo × Nat)) (b_1 : Bool) (z4_1 z5_1 : Option B), LI G fd'_1 ∧ (∀ q ∈ fd'_1, q.2 ≤ 3 ^ fd'_1.length) ∧ (b_1 = false → fd'_1 = fd ∧ (∀ h ∈ (sh G).take i, ∀ p ∈ rs G h, Closed G fd'_1 h p) ∧ ∀ p ∈ (rs G h).take (j + 1), Closed G fd'_1 h p) ∧ (b_1 = true → mu G fd'_1 < mu G fd) ∧ [some (.dat (.dct false (kdD rowD (gmW G)))), some (.own (.dct false (kdD intD (pt fd' [h] (sm G fd' p))))), some (.dat (.bl true)), some (.dat (.str [h])), some (.dat (.str p)), some (.dat (.int (sm G fd' p : Nat))), none] = [some (.dat (.dct false (kdD rowD (gmW G)))), some (.own (.dct false (kdD intD fd'_1))), some (.dat (.bl b_1)), some (.dat (.str [h])), z4_1, z5_1, none] := fun hlt => by
                refine ⟨_, true, _, _, hI.put hpm hF, ?_, (fun z => by cases z), fun _ => ?_, rfl⟩
                · rw [pt_length]
                  split
                  · rename_i hk
                    refine pt_bound hb ?_
                    cases em : lk fd' [h] with
                    | none => exact (lk_none.mp em hk).elim
                    | some m =>
                      have h1 := hlt m em
                      unfold lk at em
                      obtain ⟨q, hq, e⟩ := Option.map_eq_some_iff.mp em
                      have := hb q (List.mem_of_find?_eq_some hq)
                      omega
                  · refine pt_bound (fun q hq => ?_) ?_
                    · have := hb q hq
                      rw [Nat.pow_succ]; omega
                    · rw [Nat.pow_succ]; omega
                · have hf := mu_fall hG (n := sm G fd' p) hhG (by omega) hlt
                  cases b with
                  | true => exact Nat.lt_trans hf (c2 rfl)
                  | false => rw [(c1 rfl).1] at hf ⊢; exact hf
              have hput : putD (kdD intD fd') (.str [h]) (.int ((sm G fd' p : Nat) : Int)) = kdD intD (pt fd' [h] (sm G fd' p)) := putD_kdD intD [h] (sm G fd' p) fd'
              refine ev_ ⟨rfl, ?_⟩
              rw [look_int, Option.isSome_map]
              refine ev_iteM (fun e => ?_) (fun e => ?_)
              · refine ⟨rfl, by rw [kdD_len]; omega, ?_⟩
                rw [hput]
                exact upd fun m em => by rw [em] at e; cases e
              · obtain ⟨m, em⟩ := Option.isSome_iff_exists.mp e
                refine ⟨rfl, intD m, by rw [look_int, em]; rfl, ?_⟩
                unfold intD
                refine ev_ ?_
                refine ev_ite (fun g => ?_) (fun g => ?_)
                · refine ⟨rfl, by rw [kdD_len]; omega, ?_⟩
                  show ∃ _, _
                  have := hput
                  unfold intD at this
                  rw [this]
                  refine upd fun m' em' => ?_
                  rw [em] at em'; cases em'; omega
                · exact stay _ fun _ => ⟨m, em, by omega⟩
          · exact stay _ fun hF => by rw [hin.mpr hF] at e; cases e
      · rintro E ⟨fd', b, z4, z5, hI, hb, c1, c2, rfl⟩
        rw [List.length_map, List.take_length] at c1
        refine ⟨fd', b, _, _, _, hI, hb, fun e => ⟨(c1 e).1, fun x hx p hp => ?_⟩, c2, rfl⟩
        rw [take_snoc hh] at hx
        rcases List.mem_append.mp hx with y | y
        · exact (c1 e).2.1 x y p hp
        · rw [List.mem_singleton.mp y] at hp ⊢; exact (c1 e).2.2 p hp
    · rintro E ⟨fd', b, z3, z4, z5, hI, hb, c1, c2, rfl⟩
      rw [sgs_len, List.take_length] at c1
      refine ⟨2 * mu G fd' + (if b = true then 1 else 0), ?_, fd', b, z3, z4, z5, hI, hb, fun e h hh => (c1 e).2 h (GW.sh_mem.mpr hh), rfl, rfl⟩
      cases b with
      | true => have := c2 rfl; simp; omega
      | false => rw [(c1 rfl).1]; simp
/-- after t turns: no more than growth of t storeys -/
def UpTo (G : Gm) (t : Nat) (fd : List (Wo × Nat)) (h : Nat) : Prop := ∀ w, GrN G t [h] w → ∃ n, lk fd [h] = some n ∧ n ≤ w.length
theorem GrN.of_one {G : Gm} {t h : Nat} {w : Wo} (hh : h ∈ hds G) (g : GrN G (t + 1) [h] w) : ∃ p ∈ rs G h, GrN G t p w := by
  generalize e : [h] = s at g
  generalize e2 : t + 1 = m at g
  cases g with
  | nil => cases e
  | lt h1 _ => cases e; exact (h1 hh).elim
  | hd hp g1 g2 =>
    cases e; cases e2
    cases g2
    rw [List.append_nil]
    exact ⟨_, hp, g1⟩
theorem upto_all {G : Gm} {t : Nat} {fd : List (Wo × Nat)} {s w : Wo} (g : GrN G t s w) (hc : ∀ h ∈ hds G, UpTo G t fd h) : IsF G fd s ∧ sm G fd s ≤ w.length := by
  induction g with
  | nil => exact ⟨(fun c h => by cases h), Nat.le_refl _⟩
  | @lt t c s w hn _ ih =>
    have ih := ih hc
    refine ⟨fun d hd hdG => ?_, ?_⟩
    · rcases List.mem_cons.mp hd with z | z
      · rw [z] at hdG; exact (hn hdG).elim
      · exact ih.1 d z hdG
    · have := ih.2
      unfold sm at *
      rw [List.map_cons, List.sum_cons, List.length_cons]
      have : lv G fd c = 1 := by unfold lv; rw [if_neg hn]
      omega
  | @hd t h p u s w hp g1 _ _ ih2 =>
    have ih2 := ih2 hc
    obtain ⟨n, e, hl⟩ := hc h (rs_head hp) u (by
      have := GrN.hd hp g1 (.nil (n := t + 1))
      rwa [List.append_nil] at this)
    refine ⟨fun d hd hdG => ?_, ?_⟩
    · rcases List.mem_cons.mp hd with z | z
      · rw [z, e]; rfl
      · exact ih2.1 d z hdG
    · have h2 := ih2.2
      unfold sm at *
      rw [List.map_cons, List.sum_cons, List.length_append]
      have : lv G fd h = n := by unfold lv; rw [if_pos (rs_head hp), e]; rfl
      omega
theorem UpTo.put {G : Gm} {t : Nat} {fd : List (Wo × Nat)} {x h n : Nat} (u : UpTo G t fd x) (hn : ∀ m, lk fd [h] = some m → n ≤ m) : UpTo G t (pt fd [h] n) x := fun w g => by
  obtain ⟨m, e, hl⟩ := u w g
  rw [lk_pt]
  split
  · rename_i z
    rw [z] at e
    exact ⟨n, rfl, Nat.le_trans (hn m e) hl⟩
  · exact ⟨m, e, hl⟩
theorem law__law_lengths : ∀ a0 Pp, f__law_lengths a0 Pp → LF N__law_lengths w__law_lengths [a0] Pp := by
  rintro a0 Pp ⟨G, rfl, hL, k⟩
  have hG := hL.toGW
  unfold N__law_lengths w__law_lengths gD
  walk_at "start"
  refine ev_ ⟨⟨by decide, by decide⟩, ?_⟩
  refine x_forK (fun t E => ∃ (fd : List (Wo × Nat)) (z2 z3 z4 z5 : Option B), LI G fd ∧ (∀ h ∈ hds G, UpTo G t fd h) ∧ E = [some (.dat (.dct false (kdD rowD (gmW G)))), some (.own (.dct false (kdD intD fd))), z2, z3, z4, z5, none]) ⟨[], none, none, none, none, ⟨.nil, fun h _ n e => by cases e⟩, fun h hh w g => ?_, rfl⟩ ?_ ?_
  · generalize e : [h] = s at g
    generalize e2 : 0 = m at g
    cases g with
    | nil => cases e
    | lt h1 _ => cases e; exact (h1 hh).elim
    | hd _ _ _ => cases e2
  · rintro t d E ht ⟨fd, z2, z3, z4, z5, hI, hu, rfl⟩
    obtain ⟨htl, rfl⟩ := rng_get ht
    refine ev_ ⟨(hds G).map (fun c => [c]), keys_gD' G, ?_⟩
    rw [sort_gD]
    refine x_forK (fun i E => ∃ (fd : List (Wo × Nat)) (z3 z4 z5 : Option B), LI G fd ∧ (∀ h ∈ hds G, UpTo G t fd h) ∧ (∀ h ∈ (sh G).take i, UpTo G (t + 1) fd h) ∧ E = [some (.dat (.dct false (kdD rowD (gmW G)))), some (.own (.dct false (kdD intD fd))), some (.dat (.int (0 + (t : Int)))), z3, z4, z5, none]) ⟨fd, z3, z4, z5, hI, hu, by simp, rfl⟩ ?_ ?_
    · clear hI hu fd
      rintro i d E hi ⟨fd, z3, z4, z5, hI, hu, hv, rfl⟩
      obtain ⟨h, hh, rfl⟩ := sgs_get hi
      have hhG := GW.sh_mem.mp (List.mem_of_getElem? hh)
      refine ev_ ⟨rfl, _, look_at hhG, ?_⟩
      unfold rowD
      refine ev_ ?_
      refine x_forK (fun j E => ∃ (fd : List (Wo × Nat)) (z4 z5 : Option B), LI G fd ∧ (∀ h ∈ hds G, UpTo G t fd h) ∧ (∀ h ∈ (sh G).take i, UpTo G (t + 1) fd h) ∧ (∀ p ∈ (rs G h).take j, ∀ u, GrN G t p u → ∃ n, lk fd [h] = some n ∧ n ≤ u.length) ∧ E = [some (.dat (.dct false (kdD rowD (gmW G)))), some (.own (.dct false (kdD intD fd))), some (.dat (.int (0 + (t : Int)))), some (.dat (.str [h])), z4, z5, none]) ⟨fd, z4, z5, hI, hu, hv, by simp, rfl⟩ ?_ ?_
      · clear hI hu hv fd
        rintro j d E hj ⟨fd, z4, z5, hI, hu, hv, hw, rfl⟩
        obtain ⟨p, hp, rfl⟩ := map_get hj
        have hpm := List.mem_of_getElem? hp
        have hpl := (hG.rul h p hpm).1
        have hlen := hI.key.len hG
        refine ev_ ?_
        refine x_lcM' (onC fun c => !decide (c ∈ hds G) || (lk fd [c]).isSome) (fun i d hi => ?_) ?_
        · obtain ⟨c, hc, rfl⟩ := map_get hi
          refine ev_ ⟨rfl, ?_⟩
          rw [in_gD]
          refine ev_iteN (fun e => ?_) (fun e => ?_)
          · refine yK_c hi (by rw [List.length_map]; omega) rfl ?_
            show _ = D.bl (!decide (c ∈ hds G) || (lk fd [c]).isSome)
            rw [decide_eq_false e]; rfl
          · refine ⟨rfl, ?_⟩
            rw [look_int, Option.isSome_map]
            refine yK_c hi (by rw [List.length_map]; omega) rfl ?_
            show _ = D.bl (!decide (c ∈ hds G) || (lk fd [c]).isSome)
            rw [decide_eq_true e]; rfl
        · rw [map_onC]
          refine ev_ ?_
          rw [all_id]
          have hin : p.all (fun c => !decide (c ∈ hds G) || (lk fd [c]).isSome) = true ↔ IsF G fd p := by
            rw [List.all_eq_true]
            refine ⟨fun z c hc hcG => ?_, fun z c hc => ?_⟩
            · have := z c hc
              simpa [hcG] using this
            · by_cases y : c ∈ hds G
              · simp [z c hc y]
              · simp [y]
          refine ev_iteB (fun e => ?_) (fun e => ?_)
          · have hF := hin.mp e
            refine x_lcM' (fun d => match d with | .str [c] => .int (lv G fd c : Nat) | _ => .non) (fun i d hi => ?_) ?_
            · obtain ⟨c, hc, rfl⟩ := map_get hi
              have hcp := List.mem_of_getElem? hc
              refine ev_ ⟨rfl, ?_⟩
              rw [in_gD]
              refine ev_ite (fun hcG => ?_) (fun hcG => ?_)
              · obtain ⟨n, en⟩ := Option.isSome_iff_exists.mp (hF c hcp hcG)
                refine ⟨rfl, intD n, by rw [look_int, en]; rfl, ?_⟩
                refine yK_c hi (by rw [List.length_map]; omega) rfl ?_
                show _ = D.int (lv G fd c : Nat)
                unfold lv
                rw [if_pos hcG, en]; rfl
              · refine yK_c hi (by rw [List.length_map]; omega) rfl ?_
                show _ = D.int (lv G fd c : Nat)
                unfold lv
                rw [if_neg hcG]; rfl
            · have e1 : (p.map fun c => D.str [c]).map (fun d : D => match d with | .str [c] => .int (lv G fd c : Nat) | _ => .non) = (p.map fun c => ((lv G fd c : Nat) : Int)).map D.int := by rw [List.map_map, List.map_map]; rfl
              rw [e1]
              refine ev_ ?_
              have e2 : (p.map fun c => ((lv G fd c : Nat) : Int)).sum = ((sm G fd p : Nat) : Int) := by
                unfold sm
                clear hp hpm hpl hin hF e e1 hj
                induction p with
                | nil => rfl
                | cons a p ih => rw [List.map_cons, List.sum_cons, ih, List.map_cons, List.sum_cons]; norm_cast
              rw [e2]
              have hput : ∀ n : Nat, putD (kdD intD fd) (.str [h]) (.int (n : Int)) = kdD intD (pt fd [h] n) := fun n => putD_kdD intD [h] n fd
              have fin : ∀ n : Nat, LI G (pt fd [h] n) → (∀ m, lk fd [h] = some m → n ≤ m) → n ≤ sm G fd p → ∃ (fd_1 : List (Wo × Nat)) (z4_1 z5_1 : Option B), LI G fd_1 ∧ (∀ h ∈ hds G, UpTo G t fd_1 h) ∧ (∀ h ∈ (sh G).take i, UpTo G (t + 1) fd_1 h) ∧ (∀ p ∈ (rs G h).take (j + 1), ∀ u, GrN G t p u → ∃ n, lk fd_1 [h] = some n ∧ n ≤ u.length) ∧ [some (.dat (.dct false (kdD rowD (gmW G)))), some (.own (.dct false (kdD intD (pt fd [h] n)))), some (.dat (.int (0 + (t : Int)))), some (.dat (.str [h])), some (.dat (.str p)), some (.dat (.int (sm G fd p : Nat))), none] = [some (.dat (.dct false (kdD rowD (gmW G)))), some (.own (.dct false (kdD intD fd_1))), some (.dat (.int (0 + (t : Int)))), some (.dat (.str [h])), z4_1, z5_1, none] := fun n hI' hle hs => by
                refine ⟨_, _, _, hI', fun x hx => (hu x hx).put hle, fun x hx => (hv x hx).put hle, fun q hq u g => ?_, rfl⟩
                rw [lk_pt, if_pos rfl]
                refine ⟨n, rfl, ?_⟩
                rw [take_snoc hp] at hq
                rcases List.mem_append.mp hq with y | y
                · obtain ⟨m, em, hm⟩ := hw q y u g
                  have := hle m em
                  omega
                · rw [List.mem_singleton.mp y] at g
                  have := (upto_all g hu).2
                  omega
              refine ev_ ⟨rfl, rfl, ?_⟩
              rw [look_int]
              cases em : lk fd [h] with
              | none =>
                show wMin2 (.int ((sm G fd p : Nat) : Int)) _ _
                refine ev_ ⟨rfl, by rw [kdD_len]; omega, ?_⟩
                rw [show min ((sm G fd p : Nat) : Int) ((sm G fd p : Nat) : Int) = ((sm G fd p : Nat) : Int) by omega, hput]
                exact fin _ (hI.put hpm hF) (fun m e => by rw [em] at e; cases e) (Nat.le_refl _)
              | some m =>
                show wMin2 (.int ((m : Nat) : Int)) _ _
                refine ev_ ⟨rfl, by rw [kdD_len]; omega, ?_⟩
                rcases Nat.lt_or_ge (sm G fd p) m with z | z
                · rw [show min ((m : Nat) : Int) ((sm G fd p : Nat) : Int) = ((sm G fd p : Nat) : Int) by omega, hput]
                  exact fin _ (hI.put hpm hF) (fun m' e => by rw [em] at e; cases e; omega) (Nat.le_refl _)
                · rw [show min ((m : Nat) : Int) ((sm G fd p : Nat) : Int) = ((m : Nat) : Int) by omega, hput]
                  refine fin _ ⟨hI.key.put hhG _, fun x hx n e => ?_⟩ (fun m' e => by rw [em] at e; cases e; exact Nat.le_refl _) z
                  rw [lk_pt] at e
                  split at e
                  · rename_i y
                    cases e
                    rw [show x = h by simpa using y]
                    exact hI.snd h hhG m em
                  · exact hI.snd x hx n e
          · refine ⟨fd, _, _, hI, hu, hv, fun q hq u g => ?_, rfl⟩
            rw [take_snoc hp] at hq
            rcases List.mem_append.mp hq with y | y
            · exact hw q y u g
            · rw [List.mem_singleton.mp y] at g
              rw [hin.mpr (upto_all g hu).1] at e; cases e
      · rintro E ⟨fd, z4, z5, hI, hu, hv, hw, rfl⟩
        rw [List.length_map, List.take_length] at hw
        refine ⟨fd, _, _, _, hI, hu, fun x hx => ?_, rfl⟩
        rw [take_snoc hh] at hx
        rcases List.mem_append.mp hx with y | y
        · exact hv x y
        · rw [List.mem_singleton.mp y]
          intro w g
          obtain ⟨p, hp, g⟩ := g.of_one hhG
          exact hw p hp w g
    · rintro E ⟨fd, z3, z4, z5, hI, hu, hv, rfl⟩
      rw [sgs_len, List.take_length] at hv
      exact ⟨fd, _, _, _, _, hI, fun x hx => hv x (GW.sh_mem.mpr hx), rfl⟩
  · rintro E ⟨fd, z2, z3, z4, z5, hI, hu, rfl⟩
    rw [rng_len] at hu
    refine ev_ (k fd (hI.least fun h hh w g => ?_))
    obtain ⟨v, gv, hl⟩ := g.low (n := 20) (Nat.le_trans hG.hl (by omega))
    obtain ⟨n, e, hn⟩ := hu h hh v gv
    exact ⟨n, e, by omega⟩
theorem ltD_le (x y : D) : ltD x y = !leD y x := by
  show PySem.W.dataLt x.py y.py = !(!PySem.W.dataLt x.py y.py)
  rw [Bool.not_not]
theorem leW_cons (x y : Nat) (a b : Wo) : leW (x :: a) (y :: b) = decide (x < y ∨ x = y ∧ leW a b = true) := by
  rw [leW_dec]
  apply decide_eq_decide.mpr
  rw [List.cons_le_cons_iff, leW_dec, decide_eq_true_iff]
theorem leW_app : ∀ {a b c d : Wo}, a.length = b.length → leW a b = true → leW c d = true → leW (a ++ c) (b ++ d) = true
  | [], [], c, d, _, _, h => h
  | x :: a, y :: b, c, d, hl, h, h2 => by
    rw [leW_cons, decide_eq_true_iff] at h
    rw [List.cons_append, List.cons_append, leW_cons, decide_eq_true_iff]
    rcases h with h | ⟨h, h'⟩
    · exact .inl h
    · exact .inr ⟨h, leW_app (Nat.succ.inj hl) h' h2⟩
  | [], _ :: _, _, _, hl, _, _ => by cases hl
  | _ :: _, [], _, _, hl, _, _ => by cases hl
theorem leW_self (a : Wo) : leW a a = true := by have := leW_tot a a; simpa using this
def vl : Wo → Nat
  | [] => 0
  | c :: w => (c - 97) * 2 ^ w.length + vl w
theorem vl_lt : ∀ {w : Wo}, abW w → vl w < 2 ^ w.length
  | [], _ => by decide
  | c :: w, h => by
    have ih := vl_lt (w := w) fun d hd => h d (List.mem_cons_of_mem _ hd)
    have hc := h c List.mem_cons_self
    unfold vl
    rw [List.length_cons, Nat.pow_succ]
    rcases hc with e | e <;> subst e <;> simp <;> omega
theorem vl_mono : ∀ {a b : Wo}, abW a → abW b → a.length = b.length → leW a b = false → vl b < vl a
  | [], [], _, _, _, h => by rw [leW_self] at h; cases h
  | x :: a, y :: b, ha, hb, hl, h => by
    have hl := Nat.succ.inj hl
    have ha' : abW a := fun d hd => ha d (List.mem_cons_of_mem _ hd)
    have hb' : abW b := fun d hd => hb d (List.mem_cons_of_mem _ hd)
    rw [leW_cons, decide_eq_false_iff_not] at h
    have h1 := vl_lt ha'
    have h2 := vl_lt hb'
    unfold vl
    rw [← hl] at h2 ⊢
    have hx := ha x List.mem_cons_self
    have hy := hb y List.mem_cons_self
    by_cases e : x = y
    · subst e
      have : leW a b = false := by
        cases e2 : leW a b with
        | false => rfl
        | true => exact (h (.inr ⟨rfl, e2⟩)).elim
      have := vl_mono ha' hb' (by simpa using hl) this
      omega
    · have hlt : y < x := by
        rcases Nat.lt_trichotomy x y with z | z | z
        · exact (h (.inl z)).elim
        · exact (e z).elim
        · exact z
      have hx2 : x = 98 := by omega
      have hy2 : y = 97 := by omega
      subst hx2 hy2
      simp
      omega
  | [], _ :: _, _, _, hl, _ => by cases hl
  | _ :: _, [], _, _, hl, _ => by cases hl
theorem ml_ex {G : Gm} {h : Nat} (e : ∃ w, Gr G [h] w) : ∃ n, Ml G h n := by
  obtain ⟨w, g⟩ := e
  have : ∀ k (w : Wo), w.length ≤ k → Gr G [h] w → ∃ n, Ml G h n := by
    intro k
    induction k with
    | zero => intro w hk g; exact ⟨w.length, ⟨w, g, rfl⟩, fun v _ => by omega⟩
    | succ k ih =>
      intro w hk g
      by_cases z : ∃ v, Gr G [h] v ∧ v.length < w.length
      · obtain ⟨v, gv, hv⟩ := z
        exact ih v (by omega) gv
      · exact ⟨w.length, ⟨w, g, rfl⟩, fun v gv => Nat.le_of_not_lt fun hl => z ⟨v, gv, hl⟩⟩
  exact this _ w (Nat.le_refl _) g
def wv (G : Gm) (fd : List (Wo × Wo)) (c : Nat) : Wo := if c ∈ hds G then (lk fd [c]).getD [] else [c]
def wd (G : Gm) (fd : List (Wo × Wo)) (p : Wo) : Wo := (p.map (wv G fd)).flatten
structure SI (G : Gm) (fd : List (Wo × Wo)) : Prop where
  key : Keyd G fd
  snd : ∀ h ∈ hds G, ∀ w, lk fd [h] = some w → Gr G [h] w ∧ Ml G h w.length
theorem SI.grow {G : Gm} {fd : List (Wo × Wo)} (L : SI G fd) : ∀ {p : Wo}, IsF G fd p → Gr G p (wd G fd p)
  | [], _ => .nil
  | c :: p, h => by
    have g := L.grow (p := p) fun d hd => h d (List.mem_cons_of_mem _ hd)
    show Gr G (c :: p) (wv G fd c ++ wd G fd p)
    by_cases z : c ∈ hds G
    · obtain ⟨n, e⟩ := Option.isSome_iff_exists.mp (h c List.mem_cons_self z)
      have : wv G fd c = n := by unfold wv; rw [if_pos z, e]; rfl
      rw [this]
      exact (L.snd c z n e).1.app (s := [c]) g
    · have : wv G fd c = [c] := by unfold wv; rw [if_neg z]
      rw [this]
      exact .lt z g
def Clos (G : Gm) (fd : List (Wo × Wo)) (h : Nat) (p : Wo) : Prop := IsF G fd p → Ml G h (wd G fd p).length → ∃ b, lk fd [h] = some b ∧ leW b (wd G fd p) = true
theorem clos_all {G : Gm} {fd : List (Wo × Wo)} (L : SI G fd) (hc : ∀ h ∈ hds G, ∀ p ∈ rs G h, Clos G fd h p) {s w : Wo} (g : Gr G s w) : (∀ v, Gr G s v → w.length ≤ v.length) → IsF G fd s ∧ (wd G fd s).length = w.length ∧ leW (wd G fd s) w = true := by
  induction g with
  | nil => intro _; exact ⟨(fun c h => by cases h), rfl, leW_self _⟩
  | @lt c s w hn gs ih =>
    intro ht
    obtain ⟨i1, i2, i3⟩ := ih fun v gv => by have := ht (c :: v) (.lt hn gv); simpa using this
    have e : wd G fd (c :: s) = [c] ++ wd G fd s := by
      have : wv G fd c = [c] := by unfold wv; rw [if_neg hn]
      show wv G fd c ++ _ = _
      rw [this]; rfl
    rw [e]
    refine ⟨fun d hd hdG => ?_, by simp [i2], leW_app (b := [c]) rfl (leW_self _) i3⟩
    rcases List.mem_cons.mp hd with z | z
    · rw [z] at hdG; exact (hn hdG).elim
    · exact i1 d z hdG
  | @hd h p u s w hp gp gs ih1 ih2 =>
    intro ht
    have t1 : ∀ v, Gr G [h] v → u.length ≤ v.length := fun v gv => by
      have := ht (v ++ w) (gv.app (s := [h]) gs)
      simp at this
      omega
    have t2 : ∀ v, Gr G s v → w.length ≤ v.length := fun v gv => by
      have := ht (u ++ v) (.hd hp gp gv)
      simp at this
      omega
    obtain ⟨i1, i2, i3⟩ := ih1 fun v gv => t1 v (.one hp gv)
    obtain ⟨j1, j2, j3⟩ := ih2 t2
    have m : Ml G h (wd G fd p).length := by rw [i2]; exact ⟨⟨u, .one hp gp, rfl⟩, t1⟩
    obtain ⟨b, eb, hb⟩ := hc h (rs_head hp) p hp i1 m
    have hbl : b.length = u.length := by
      obtain ⟨gb, mb⟩ := L.snd h (rs_head hp) b eb
      have h1 := mb.2 u (.one hp gp)
      have h2 := t1 b gb
      omega
    have e : wd G fd (h :: s) = b ++ wd G fd s := by
      have : wv G fd h = b := by unfold wv; rw [if_pos (rs_head hp), eb]; rfl
      show wv G fd h ++ _ = _
      rw [this]; rfl
    rw [e]
    refine ⟨fun d hd hdG => ?_, by rw [List.length_append, List.length_append, hbl, j2], leW_app hbl (leW_trans _ _ _ hb i3) j3⟩
    rcases List.mem_cons.mp hd with z | z
    · rw [z, eb]; rfl
    · exact j1 d z hdG
def mu2 (G : Gm) (fd : List (Wo × Wo)) : Nat := ((hds G).map fun h => match lk fd [h] with | none => 2 ^ 100 | some w => vl w).sum
theorem mu2_fall {G : Gm} (hG : GW G) {fd : List (Wo × Wo)} {h : Nat} {w : Wo} (hh : h ∈ hds G) (hn : vl w < 2 ^ 100) (hl : ∀ m, lk fd [h] = some m → vl w < vl m) : mu2 G (pt fd [h] w) < mu2 G fd := by
  refine sum_fall hG.nd hh (fun x _ hx => ?_) ?_
  · rw [lk_pt, if_neg fun e => hx (by simpa using e)]
  · rw [lk_pt, if_pos rfl]
    cases e : lk fd [h] with
    | none => exact hn
    | some m => exact hl m e
theorem law_shortest_word : ∀ a0 a1 Pp, f_shortest_word a0 a1 Pp → LF N_shortest_word w_shortest_word [a0, a1] Pp := by
  rintro a0 a1 Pp ⟨G, h0, rfl, rfl, hL, hh0, k1, k2⟩
  have hG := hL.toGW
  unfold N_shortest_word w_shortest_word
  walk_at "start"
  refine ev_ ⟨G, rfl, hL, fun ls hls => ?_⟩
  unfold gD
  obtain ⟨K, hK1, hK2, hK3⟩ := hls.key
  have hKk : (kdD intD ls).map (·.1) = (K.map fun c => [c]).map D.str := by rw [kdD_keys, hK1]
  have hKs : ((K.map fun c => [c]).map D.str).mergeSort leD = sgs (srN K) := by rw [← sgs_strs, sort_sgs]
  have hKm : ∀ h, h ∈ K → ∃ n, lk ls [h] = some n := fun h hk => by
    cases e : lk ls [h] with
    | none =>
      have := lk_none.mp e
      rw [hK1] at this
      exact (this (List.mem_map.mpr ⟨h, hk, rfl⟩)).elim
    | some n => exact ⟨n, rfl⟩
  have hKi : ∀ h n, lk ls [h] = some n → h ∈ K := fun h n e => by
    refine Classical.byContradiction fun hk => ?_
    have : lk ls [h] = none := by
      rw [lk_none, hK1]
      intro z
      obtain ⟨c, hc, e⟩ := List.mem_map.mp z
      cases e
      exact hk hc
    rw [this] at e; cases e
  have hKl := nodup_len hK2 hK3
  have hhl := hG.hl
  refine ev_ ?_
  refine x_while (fun r E => ∃ (fd : List (Wo × Wo)) (b : Bool) (z5 z6 z7 : Option B), SI G fd ∧ (b = false → ∀ h ∈ K, ∀ p ∈ rs G h, Clos G fd h p) ∧ r = 2 * mu2 G fd + (if b = true then 1 else 0) ∧ E = [some (.dat (.dct false (kdD rowD (gmW G)))), some (.dat (.str [h0])), some (.own (.dct false (kdD intD ls))), some (.own (.dct false (kdD D.str fd))), some (.dat (.bl b)), z5, z6, z7, none]) _ ⟨[], true, _, _, _, ⟨.nil, fun h _ n e => by cases e⟩, (fun h => by cases h), rfl, rfl⟩ ?_
  rintro r E ⟨fd, b, z5, z6, z7, hI, cl, rfl, rfl⟩
  cases b with
  | false =>
    have cl : ∀ h ∈ hds G, ∀ p ∈ rs G h, Clos G fd h p := fun h hh p hp hf m => cl rfl h (hKi h _ ((hls.val h hh _).mpr m)) p hp hf m
    refine ev_ ⟨rfl, ?_⟩
    rw [lookD_kdD]
    have comp : ∀ w, Gr G [h0] w → (∀ v, Gr G [h0] v → w.length ≤ v.length) → ∃ b, lk fd [h0] = some b ∧ b.length = w.length ∧ leW b w = true := fun w g ht => by
      obtain ⟨i1, i2, i3⟩ := clos_all hI cl g ht
      obtain ⟨b, eb⟩ := Option.isSome_iff_exists.mp (i1 h0 List.mem_cons_self hh0)
      have e : wd G fd [h0] = b := by
        show wv G fd h0 ++ [] = b
        unfold wv
        rw [if_pos hh0, eb, List.append_nil]; rfl
      rw [e] at i2 i3
      exact ⟨b, eb, i2, i3⟩
    cases e : lk fd [h0] with
    | none =>
      refine k1 fun hw => ?_
      obtain ⟨n, ⟨⟨w, g, ew⟩, hm⟩⟩ := ml_ex hw
      obtain ⟨b, eb, _⟩ := comp w g (by rw [ew]; exact hm)
      rw [e] at eb; cases eb
    | some w =>
      obtain ⟨g, m⟩ := hI.snd h0 hh0 w e
      refine k2 w ⟨g, ?_, m.small hG, fun v gv => ⟨m.2 v gv, fun ev => ?_⟩⟩
      · obtain ⟨p, hp, g'⟩ := g.of_one hh0
        exact hL.abw g' (hL.ab h0 p hp)
      · obtain ⟨b, eb, _, hb⟩ := comp v gv fun u gu => by rw [ev]; exact m.2 u gu
        rw [e] at eb; cases eb
        exact hb
  | true =>
    clear cl
    refine ev_ ⟨_, hKk, ?_⟩
    rw [hKs]
    refine x_forK (fun i E => ∃ (fd' : List (Wo × Wo)) (b : Bool) (z5 z6 z7 : Option B), SI G fd' ∧ (b = false → fd' = fd ∧ ∀ h ∈ (srN K).take i, ∀ p ∈ rs G h, Clos G fd' h p) ∧ (b = true → mu2 G fd' < mu2 G fd) ∧ E = [some (.dat (.dct false (kdD rowD (gmW G)))), some (.dat (.str [h0])), some (.own (.dct false (kdD intD ls))), some (.own (.dct false (kdD D.str fd'))), some (.dat (.bl b)), z5, z6, z7, none]) ⟨fd, false, z5, z6, z7, hI, fun _ => ⟨rfl, by simp⟩, (fun h => by cases h), rfl⟩ ?_ ?_
    · rintro i d E hi ⟨fd', b, z5, z6, z7, hI, c1, c2, rfl⟩
      obtain ⟨h, hh, rfl⟩ := sgs_get hi
      have hhK := srN_mem.mp (List.mem_of_getElem? hh)
      have hhG := hK3 h hhK
      obtain ⟨n0, en0⟩ := hKm h hhK
      refine ev_ ⟨rfl, _, look_at hhG, ?_⟩
      unfold rowD
      refine ev_ ?_
      refine x_forK (fun j E => ∃ (fd' : List (Wo × Wo)) (b : Bool) (z6 z7 : Option B), SI G fd' ∧ (b = false → fd' = fd ∧ (∀ h ∈ (srN K).take i, ∀ p ∈ rs G h, Clos G fd' h p) ∧ ∀ p ∈ (rs G h).take j, Clos G fd' h p) ∧ (b = true → mu2 G fd' < mu2 G fd) ∧ E = [some (.dat (.dct false (kdD rowD (gmW G)))), some (.dat (.str [h0])), some (.own (.dct false (kdD intD ls))), some (.own (.dct false (kdD D.str fd'))), some (.dat (.bl b)), some (.dat (.str [h])), z6, z7, none]) ⟨fd', b, z6, z7, hI, fun e => ⟨(c1 e).1, (c1 e).2, by simp⟩, c2, rfl⟩ ?_ ?_
      · clear hI c1 c2 b fd'
        rintro j d E hj ⟨fd', b, z6, z7, hI, c1, c2, rfl⟩
        obtain ⟨p, hp, rfl⟩ := map_get hj
        have hpm := List.mem_of_getElem? hp
        have hpl := (hG.rul h p hpm).1
        have hlen := hI.key.len hG
        refine ev_ ?_
        refine x_lcM' (onC fun c => decide (c ∈ lowL) || (lk fd' [c]).isSome) (fun i d hi => ?_) ?_
        · obtain ⟨c, hc, rfl⟩ := map_get hi
          refine ev_ ?_
          refine ev_ite (fun e => ?_) (fun e => ?_)
          · refine yK_c hi (by rw [List.length_map]; omega) rfl ?_
            show _ = D.bl (decide (c ∈ lowL) || (lk fd' [c]).isSome)
            rw [decide_eq_true e]; rfl
          · refine ⟨rfl, ?_⟩
            rw [lookD_kdD, Option.isSome_map]
            refine yK_c hi (by rw [List.length_map]; omega) rfl ?_
            show _ = D.bl (decide (c ∈ lowL) || (lk fd' [c]).isSome)
            rw [decide_eq_false e]; rfl
        · rw [map_onC]
          refine ev_ ?_
          rw [all_id]
          have hin : p.all (fun c => decide (c ∈ lowL) || (lk fd' [c]).isSome) = true ↔ IsF G fd' p := by
            rw [List.all_eq_true]
            refine ⟨fun z c hc hcG => ?_, fun z c hc => ?_⟩
            · have := z c hc
              rw [Bool.or_eq_true, decide_eq_true_iff, hL.low hpm hc] at this
              exact this.elim (fun y => (y hcG).elim) id
            · rw [Bool.or_eq_true, decide_eq_true_iff, hL.low hpm hc]
              by_cases y : c ∈ hds G
              · exact .inr (z c hc y)
              · exact .inl y
          have stay : ∀ (z7 : Option B), Clos G fd' h p → ∃ (fd'_1 : List (Wo × Wo)) (b_1 : Bool) (z6_1 z7_1 : Option B), SI G fd'_1 ∧ (b_1 = false → fd'_1 = fd ∧ (∀ h ∈ (srN K).take i, ∀ p ∈ rs G h, Clos G fd'_1 h p) ∧ ∀ p ∈ (rs G h).take (j + 1), Clos G fd'_1 h p) ∧ (b_1 = true → mu2 G fd'_1 < mu2 G fd) ∧ [some (.dat (.dct false (kdD rowD (gmW G)))), some (.dat (.str [h0])), some (.own (.dct false (kdD intD ls))), some (.own (.dct false (kdD D.str fd'))), some (.dat (.bl b)), some (.dat (.str [h])), some (.dat (.str p)), z7, none] = [some (.dat (.dct false (kdD rowD (gmW G)))), some (.dat (.str [h0])), some (.own (.dct false (kdD intD ls))), some (.own (.dct false (kdD D.str fd'_1))), some (.dat (.bl b_1)), some (.dat (.str [h])), z6_1, z7_1, none] := fun z7 hc => by
            refine ⟨fd', b, _, _, hI, fun e => ⟨(c1 e).1, (c1 e).2.1, fun q hq => ?_⟩, c2, rfl⟩
            rw [take_snoc hp] at hq
            rcases List.mem_append.mp hq with y | y
            · exact (c1 e).2.2 q y
            · rw [List.mem_singleton.mp y]; exact hc
          refine ev_iteB (fun e => ?_) (fun e => ?_)
          · have hF := hin.mp e
            have gw := hI.grow hF
            have gh : Gr G [h] (wd G fd' p) := .one hpm gw
            refine x_lcM' (fun d => match d with | .str [c] => .str (wv G fd' c) | _ => .non) (fun i d hi => ?_) ?_
            · obtain ⟨c, hc, rfl⟩ := map_get hi
              have hcp := List.mem_of_getElem? hc
              refine ev_ ?_
              refine ev_ite (fun e => ?_) (fun e => ?_)
              · refine yK_c hi (by rw [List.length_map]; omega) rfl ?_
                show _ = D.str (wv G fd' c)
                unfold wv
                rw [if_neg ((hL.low hpm hcp).mp e)]
              · have hcG : c ∈ hds G := Classical.byContradiction fun z => e ((hL.low hpm hcp).mpr z)
                obtain ⟨n, en⟩ := Option.isSome_iff_exists.mp (hF c hcp hcG)
                refine ⟨rfl, .str n, by rw [lookD_kdD, en]; rfl, ?_⟩
                refine yK_c hi (by rw [List.length_map]; omega) rfl ?_
                show _ = D.str (wv G fd' c)
                unfold wv
                rw [if_pos hcG, en]; rfl
            · have e1 : (p.map fun c => D.str [c]).map (fun d : D => match d with | .str [c] => .str (wv G fd' c) | _ => .non) = (p.map (wv G fd')).map D.str := by rw [List.map_map, List.map_map]; rfl
              rw [e1]
              have hwl : ∀ c ∈ p, (wv G fd' c).length ≤ 81 := fun c hc => by
                unfold wv
                split
                · rename_i hcG
                  obtain ⟨n, en⟩ := Option.isSome_iff_exists.mp (hF c hc hcG)
                  rw [en]
                  exact (hI.snd c hcG n en).2.small hG
                · show 1 ≤ 81; omega
              have hsum : ((p.map (wv G fd')).map (·.length)).sum ≤ p.length * 81 := by
                clear hp hpm hpl hin stay hF e e1 hj gw gh
                induction p with
                | nil => simp
                | cons a p ih =>
                  rw [List.map_cons, List.map_cons, List.sum_cons, List.length_cons, Nat.succ_mul]
                  have := hwl a List.mem_cons_self
                  have := ih fun c hc => hwl c (List.mem_cons_of_mem _ hc)
                  omega
              have hwdl : (wd G fd' p).length ≤ 243 := by
                unfold wd
                rw [List.length_flatten]
                exact Nat.le_trans hsum (by omega)
              have hwab : abW (wd G fd' p) := hL.abw gw (hL.ab h p hpm)
              refine ev_ ⟨?_, ?_⟩
              · refine Nat.le_trans (Nat.add_le_add_right hsum _) ?_
                rw [List.length_nil, Nat.mul_zero]; omega
              · rw [joinD_empty, show (p.map (wv G fd')).flatten = wd G fd' p from rfl]
                refine ⟨by omega, rfl, .int (n0 : Nat), by rw [look_int, en0]; rfl, (okN_int (n := 0) _).ok, (okN_int (n := 0) _).ok, ?_⟩
                rw [eqD_int]
                have hn0 := (hls.val h hhG n0).mp en0
                refine ev_ite (fun g => ?_) (fun g => ?_)
                · have gl : (wd G fd' p).length = n0 := by omega
                  have hml : Ml G h (wd G fd' p).length := by rw [gl]; exact hn0
                  have upd : (∀ m, lk fd' [h] = some m → leW m (wd G fd' p) = false) → ∃ (fd'_1 : List (Wo × Wo)) (b_1 : Bool) (z6_1 z7_1 : Option B), SI G fd'_1 ∧ (b_1 = false → fd'_1 = fd ∧ (∀ h ∈ (srN K).take i, ∀ p ∈ rs G h, Clos G fd'_1 h p) ∧ ∀ p ∈ (rs G h).take (j + 1), Clos G fd'_1 h p) ∧ (b_1 = true → mu2 G fd'_1 < mu2 G fd) ∧ [some (.dat (.dct false (kdD rowD (gmW G)))), some (.dat (.str [h0])), some (.own (.dct false (kdD intD ls))), some (.own (.dct false (kdD D.str (pt fd' [h] (wd G fd' p))))), some (.dat (.bl true)), some (.dat (.str [h])), some (.dat (.str p)), some (.dat (.str (wd G fd' p))), none] = [some (.dat (.dct false (kdD rowD (gmW G)))), some (.dat (.str [h0])), some (.own (.dct false (kdD intD ls))), some (.own (.dct false (kdD D.str fd'_1))), some (.dat (.bl b_1)), some (.dat (.str [h])), z6_1, z7_1, none] := fun hlt => by
                    refine ⟨_, true, _, _, ⟨hI.key.put hhG _, fun x hx w ew => ?_⟩, (fun z => by cases z), fun _ => ?_, rfl⟩
                    · rw [lk_pt] at ew
                      split at ew
                      · rename_i y
                        cases ew
                        rw [show x = h by simpa using y]
                        exact ⟨gh, hml⟩
                      · exact hI.snd x hx w ew
                    · have hv := vl_lt hwab
                      have hv2 : 2 ^ (wd G fd' p).length ≤ 2 ^ 81 := Nat.pow_le_pow_right (by omega) (by rw [gl]; exact hn0.small hG)
                      have hv3 : (2 : Nat) ^ 81 ≤ 2 ^ 100 := by decide
                      have hf := mu2_fall hG (w := wd G fd' p) hhG (by omega) fun m em => by
                        obtain ⟨gm, mm⟩ := hI.snd h hhG m em
                        obtain ⟨q, hq, gq⟩ := gm.of_one hhG
                        have hl1 := mm.2 _ gh
                        have hl2 := hml.2 _ gm
                        exact vl_mono (hL.abw gq (hL.ab h q hq)) hwab (by omega) (hlt m em)
                      cases b with
                      | true => exact Nat.lt_trans hf (c2 rfl)
                      | false => rw [(c1 rfl).1] at hf ⊢; exact hf
                  have hput : putD (kdD D.str fd') (.str [h]) (.str (wd G fd' p)) = kdD D.str (pt fd' [h] (wd G fd' p)) := putD_kdD D.str [h] (wd G fd' p) fd'
                  refine ev_ ⟨rfl, ?_⟩
                  rw [lookD_kdD, Option.isSome_map]
                  refine ev_iteM (fun e => ?_) (fun e => ?_)
                  · refine ⟨rfl, by rw [kdD_len]; omega, ?_⟩
                    rw [hput]
                    exact upd fun m em => by rw [em] at e; cases e
                  · obtain ⟨m, em⟩ := Option.isSome_iff_exists.mp e
                    refine ⟨rfl, .str m, by rw [lookD_kdD, em]; rfl, ?_⟩
                    have hmab : abW m := by
                      obtain ⟨q, hq, gq⟩ := (hI.snd h hhG m em).1.of_one hhG
                      exact hL.abw gq (hL.ab h q hq)
                    have okab : ∀ {w : Wo}, abW w → okS w := fun h c hc => by rcases h c hc with e | e <;> omega
                    refine ev_ ⟨okab hwab, okab hmab, ?_⟩
                    rw [ltD_le]
                    refine ev_iteM (fun g => ?_) (fun g => ?_)
                    · refine ⟨rfl, by rw [kdD_len]; omega, ?_⟩
                      rw [hput]
                      exact upd fun m' em' => by rw [em] at em'; cases em'; exact g
                    · exact stay _ fun _ _ => ⟨m, em, g⟩
                · exact stay _ fun _ m => (g (by
                    have := (hls.val h hhG _).mpr m
                    rw [en0] at this
                    have := Option.some.inj this
                    omega)).elim
          · exact stay _ fun hF => by rw [hin.mpr hF] at e; cases e
      · rintro E ⟨fd', b, z6, z7, hI, c1, c2, rfl⟩
        rw [List.length_map, List.take_length] at c1
        refine ⟨fd', b, _, _, _, hI, fun e => ⟨(c1 e).1, fun x hx p hp => ?_⟩, c2, rfl⟩
        rw [take_snoc hh] at hx
        rcases List.mem_append.mp hx with y | y
        · exact (c1 e).2.1 x y p hp
        · rw [List.mem_singleton.mp y] at hp ⊢; exact (c1 e).2.2 p hp
    · rintro E ⟨fd', b, z5, z6, z7, hI, c1, c2, rfl⟩
      rw [sgs_len, List.take_length] at c1
      refine ⟨2 * mu2 G fd' + (if b = true then 1 else 0), ?_, fd', b, z5, z6, z7, hI, fun e h hh => (c1 e).2 h (srN_mem.mpr hh), rfl, rfl⟩
      cases b with
      | true => have := c2 rfl; simp; omega
      | false => rw [(c1 rfl).1]; simp

end PW

set_option Elab.async false
set_option linter.all false
set_option autoImplicit false
set_option maxRecDepth 100000
set_option maxHeartbeats 4000000
set_option synthInstance.maxHeartbeats 2000000
set_option synthInstance.maxSize 1000000
set_option exponentiation.threshold 5000
namespace PW
open PySem PySem.Spec PyProof.Rows L2
local macro_rules | `(tactic| walk_at "sta") => `(tactic| with_reducible repeat (first | exact StaR.z | apply StaR.c | apply StaR.n))
local macro_rules | `(tactic| walk_at "start") => `(tactic| with_reducible first | refine LF2 (by walk_at "sta") ?_ | refine LF1 (by walk_at "sta") ?_ | refine LF3 (by walk_at "sta") ?_ | refine LF4 (by walk_at "sta") ?_ | refine LF0 (by walk_at "sta") ?_ | refine LF5 (by walk_at "sta") ?_ | refine LF6 (by walk_at "sta") ?_ | refine LP0 (by walk_at "sta") ?_ | refine LP1 (by walk_at "sta") ?_ | refine LP2 (by walk_at "sta") ?_ | refine LP3 (by walk_at "sta") ?_ | refine LL1_0 (by walk_at "sta") ?_ | refine LL2_0 (by walk_at "sta") ?_ | refine LL2_1 (by walk_at "sta") ?_ | refine LL3_0 (by walk_at "sta") ?_ | refine LL3_1 (by walk_at "sta") ?_ | refine LL3_2 (by walk_at "sta") ?_ | refine LL4_0 (by walk_at "sta") ?_ | refine LL4_1 (by walk_at "sta") ?_ | refine LL4_2 (by walk_at "sta") ?_ | refine LL4_3 (by walk_at "sta") ?_ | refine LL5_0 (by walk_at "sta") ?_ | refine LL5_1 (by walk_at "sta") ?_ | refine LL5_2 (by walk_at "sta") ?_ | refine LL5_3 (by walk_at "sta") ?_ | refine LL5_4 (by walk_at "sta") ?_)
/-! ### drawn grammars, spans, all words: what the defs promise -/
structure Gdr (m : Nat) (G : Gm) : Prop extends GL G where
  hs : ∃ k, 1 ≤ k ∧ k ≤ m ∧ hds G = ([83, 65, 66, 67] : List Nat).take k
  n3 : ∀ h, (rs G h).length ≤ 3
  asc : ∀ h, (rs G h).Nodup ∧ (rs G h).Pairwise fun a b => leW a b = true
def f__law_grammar_drawn : D → D → (B → D → Prop) → Prop := fun p m P => isPool p ∧ ∃ n : Nat, m = .int n ∧ 1 ≤ n ∧ n ≤ 4 ∧ ∀ G d', Gdr n G → isPool d' → P (.own (gD G)) d'
def encS (t : Sp3) : D := .tup [.str [t.1], .int (t.2.1 : Nat), .int (t.2.2 : Nat)]
def f__law_spans : D → D → (B → Prop) → Prop := fun g w P => ∃ (G : Gm) (word : Wo), g = gD G ∧ w = .str word ∧ GW G ∧ word.length ≤ 9 ∧ G.length * tri word.length ≤ 190 ∧ ∀ L : List Sp3, L.Nodup → (∀ t, t ∈ L ↔ Span G word t) → P (.own (.lst (L.map encS)))
open Classical in
noncomputable def grw (G : Gm) (c : Nat) (w : Wo) : Bool := decide (Gr G [c] w)
def f__law_grows : D → D → D → (B → Prop) → Prop := fun g h w P => ∃ (G : Gm) (c : Nat) (word : Wo), g = gD G ∧ h = .str [c] ∧ w = .str word ∧ GW G ∧ word.length ≤ 9 ∧ G.length * tri word.length ≤ 190 ∧ c ∈ hds G ∧ P (.dat (.bl (grw G c word)))
def wab : Nat → List Wo
  | 0 => [[]]
  | n + 1 => (wab n).flatMap fun w => [w ++ [97], w ++ [98]]
def f__law_all_words : D → (B → Prop) → Prop := fun s P => ∃ n : Nat, s = .int n ∧ n ≤ 8 ∧ P (.own (.lst ((wab n).map D.str)))

def N__law_grammar_drawn : Nat := 9
-- 0:pool 1:most 2:heads 3:found 4:head 5:told 6:k 7:sprout 8:sign
def w__law_grammar_drawn : WS :=
  (sSeq (sSet 2 (wSlice (oE (wLst (aC (wC (.str [83])) (aC (wC (.str [65])) (aC (wC (.str [66])) (aC (wC (.str [67])) aN)))))) pN (pS (wOp wAdd (oE (wC (.int 1))) (oE (wCallP 0 (ps1 f__law_draw) (aC (wV 1) aN)))))))
  (sSeq (sSet 3 (wDct0 false))
  (sSeq (sFor (iS (wV 2)) (gN 4) (sSeq (sExpr (wCallP 0 (ps0 f__law_next) aN))
  (sSeq (sSet 5 (wLst aN))
  (sSeq (sFor (iR1 (wJ (wIf (wTst (wOp wNe (oV 4) (oE (wC (.str [83]))))) (wCallP 0 (ps1 f__law_draw) (aC (wC (.int 4)) aN)) (wOp wAdd (oE (wC (.int 1))) (oE (wCallP 0 (ps1 f__law_draw) (aC (wC (.int 3)) aN))))))) (gN 6) (sSeq (sSet 7 (wC (.str [])))
  (sSeq (sFor (iR1 (wCallP 0 (ps1 f__law_draw) (aC (wC (.int 4)) aN))) (gN 8) (sSet 7 (wOp wAdd (oV 7) (oE (wCallP 0 (ps1 f__law_pick) (aC (wOp wAdd (oE (wLst (aC (wC (.str [97])) (aC (wC (.str [98])) (aC (wC (.str [97])) (aC (wC (.str [98])) aN)))))) (oV 2)) aN))))))
  (sIf (wTst (wOp wNin (oV 7) (oV 5))) (sExpr (wMut1 "list" 5 mAppend (wV 7))) sNext))))
  (sSub 3 (wV 4) (wUn wSorted (oV 5)))))))
  (sRet (wM 3)))))
def N__law_spans : Nat := 13
-- 0:grammar 1:word 2:found 3:turn 4:new 5:head 6:sprout 7:first 8:ends 9:sign 10:further 11:place 12:last
def w__law_spans : WS :=
  (sSeq (sSet 2 (wLst aN))
  (sSeq (sFor (iR1 (wC (.int 200))) (gN 3) (sSeq (sSet 4 (wLst aN))
  (sSeq (sFor (iS (wUn wSortK (oV 0))) (gN 5) (sFor (iS (wOp wIx (oV 0) (oV 5))) (gN 6) (sFor (iR1 (wOp wAdd (oE (wUn wLen (oV 1))) (oE (wC (.int 1))))) (gN 7) (sSeq (sSet 8 (wLst (aC (wV 7) aN)))
  (sSeq (sFor (iS (wV 6)) (gN 9) (sSeq (sSet 10 (wLst aN))
  (sSeq (sFor (iS (wV 8)) (gN 11) (sIf (wTst (wOp wNin (oV 9) (oV 0))) (sSet 10 (wOp wAdd (oV 10) (oE (wIf (wTst (wOp wEq (oE (wSlice (oV 1) (pS (wV 11)) (pS (wOp wAdd (oV 11) (oE (wC (.int 1))))))) (oV 9))) (wLst (aC (wOp wAdd (oV 11) (oE (wC (.int 1)))) aN)) (wLst aN))))) (sSet 10 (wOp wAdd (oV 10) (oE (wLc (iR2 (wV 11) (wOp wAdd (oE (wUn wLen (oV 1))) (oE (wC (.int 1))))) (gN 12) (wTst (wOp wIn (oE (wTup (aC (wV 9) (aC (wV 11) (aC (wV 12) aN))))) (oV 2))) (wV 12) [12]))))))
  (sSet 8 (wCall (fs1 f__law_different) (aC (wV 10) aN))))))
  (sSet 4 (wOp wAdd (oV 4) (oE (wLc (iS (wV 8)) (gN 12) (wAnd (wTst (wOp wNin (oE (wTup (aC (wV 5) (aC (wV 7) (aC (wV 12) aN))))) (oV 2))) (wTst (wOp wNin (oE (wTup (aC (wV 5) (aC (wV 7) (aC (wV 12) aN))))) (oV 4)))) (wTup (aC (wV 5) (aC (wV 7) (aC (wV 12) aN)))) [12])))))))))
  (sSeq (sSet 2 (wOp wAdd (oV 2) (oV 4)))
  (sIf (wTst (wOp wEq (oV 4) (oE (wLst aN)))) (sRet (wM 2)) sNext)))))
  (sRet (wC .non))))
def N__law_grows : Nat := 3
-- 0:grammar 1:head 2:word
def w__law_grows : WS :=
  (sRet (wOp wIn (oE (wTup (aC (wV 1) (aC (wC (.int 0)) (aC (wUn wLen (oV 2)) aN))))) (oE (wCall (fs2 f__law_spans) (aC (wV 0) (aC (wV 2) aN))))))
def N__law_all_words : Nat := 6
-- 0:size 1:found 2:k 3:longer 4:word 5:sign
def w__law_all_words : WS :=
  (sSeq (sSet 1 (wLst (aC (wC (.str [])) aN)))
  (sSeq (sFor (iR1 (wV 0)) (gN 2) (sSeq (sSet 3 (wLst aN))
  (sSeq (sFor (iS (wV 1)) (gN 4) (sSet 3 (wOp wAdd (oV 3) (oE (wLc (iS (wC (.str [97, 98]))) (gN 5) wYes (wOp wAdd (oV 4) (oV 5)) [5])))))
  (sSet 1 (wM 3)))))
  (sRet (wM 1))))
open Classical in
theorem grw_iff {G : Gm} {c : Nat} {w : Wo} : grw G c w = true ↔ Gr G [c] w := by unfold grw; rw [decide_eq_true_iff]
theorem grw_t {G : Gm} {c : Nat} {w : Wo} (h : Gr G [c] w) : grw G c w = true := grw_iff.mpr h
theorem grw_f {G : Gm} {c : Nat} {w : Wo} (h : ¬ Gr G [c] w) : grw G c w = false := by
  cases e : grw G c w with
  | false => rfl
  | true => exact (h (grw_iff.mp e)).elim
theorem eqN' (a b : Nat) : eqD (.int (a : Nat)) (.int (b : Nat)) = true ↔ a = b := by rw [eqI]; omega
theorem f_diff_nats {l : List Nat} {P : B → Prop} (hl : l.length < 16777216) (k : P (.own (.lst ((df [] l).map fun j => D.int (j : Nat))))) : f__law_different (.lst (l.map fun j => D.int (j : Nat))) P :=
  ⟨Nat, inferInstance, fun j => D.int (j : Nat), l, rfl, eqN', hl, .inl fun _ _ => rfl, k⟩
theorem eqSp (t u : Sp3) : eqD (encS t) (encS u) = true ↔ t = u := by
  unfold encS
  rw [eqD_tup]
  simp only [eqDs, Bool.and_true, Bool.and_eq_true, eqC, eqN']
  constructor
  · rintro ⟨a, b, c⟩
    exact Prod.ext a (Prod.ext b c)
  · rintro rfl
    exact ⟨rfl, rfl, rfl⟩
theorem any_sp (t : Sp3) (L : List Sp3) : anyD (encS t) (L.map encS) = decide (t ∈ L) := (anyD_map eqSp t L).trans (decide_eq_decide.mpr Iff.rfl)
theorem okN_sp {t : Sp3} (h : t.1 < 1114112) : okN 1 (encS t) := okN_tup (all_cons (okN_str fun c hc => by rw [List.mem_singleton.mp hc]; exact h) (all_cons (okN_int _) (all_cons (okN_int _) all_nil)))
theorem okN_sps {L : List Sp3} (h : ∀ t ∈ L, t.1 < 1114112) : okN 2 (.lst (L.map encS)) := okN_lst fun d hd => by
  obtain ⟨t, ht, rfl⟩ := List.mem_map.mp hd
  exact okN_sp (h t ht)
theorem wab_len : ∀ n, (wab n).length = 2 ^ n
  | 0 => rfl
  | n + 1 => by
    unfold wab
    have : ∀ l : List Wo, (l.flatMap fun w => [w ++ [97], w ++ [98]]).length = 2 * l.length := fun l => by
      induction l with
      | nil => rfl
      | cons a l ih => rw [List.flatMap_cons, List.length_append, ih, List.length_cons]; simp; omega
    rw [this, wab_len n, Nat.pow_succ]; omega
theorem wab_mem : ∀ {n : Nat} {w : Wo}, w ∈ wab n ↔ w.length = n ∧ abW w
  | 0, w => by
    unfold wab
    rw [List.mem_singleton]
    constructor
    · rintro rfl; exact ⟨rfl, fun c h => by cases h⟩
    · rintro ⟨h, _⟩; exact List.length_eq_zero_iff.mp h
  | n + 1, w => by
    unfold wab
    rw [List.mem_flatMap]
    constructor
    · rintro ⟨v, hv, h⟩
      obtain ⟨h1, h2⟩ := wab_mem.mp hv
      simp only [List.mem_cons, List.not_mem_nil, or_false] at h
      rcases h with rfl | rfl
      · refine ⟨by simp [h1], fun c hc => ?_⟩
        rcases List.mem_append.mp hc with z | z
        · exact h2 c z
        · exact .inl (List.mem_singleton.mp z)
      · refine ⟨by simp [h1], fun c hc => ?_⟩
        rcases List.mem_append.mp hc with z | z
        · exact h2 c z
        · exact .inr (List.mem_singleton.mp z)
    · rintro ⟨hl, ha⟩
      rcases List.eq_nil_or_concat w with e | ⟨v, c, e⟩
      · rw [e] at hl; cases hl
      · rw [List.concat_eq_append] at e
        subst e
        rw [List.length_append] at hl
        refine ⟨v, wab_mem.mpr ⟨by simpa using hl, fun d hd => ha d (List.mem_append_left _ hd)⟩, ?_⟩
        rcases ha c (by simp) with e | e <;> subst e <;> simp
theorem law__law_all_words : ∀ a0 Pp, f__law_all_words a0 Pp → LF N__law_all_words w__law_all_words [a0] Pp := by
  rintro a0 Pp ⟨n, rfl, hn, k⟩
  unfold N__law_all_words w__law_all_words
  walk_at "start"
  refine ev_ ⟨⟨by omega, by omega⟩, ?_⟩
  refine x_forK (fun i E => ∃ z2 z3 z4, E = [some (.dat (.int (n : Nat))), some (.own (.lst ((wab i).map D.str))), z2, z3, z4, none]) ⟨_, _, _, rfl⟩ ?_ ?_
  · rintro i d E hi ⟨z2, z3, z4, rfl⟩
    obtain ⟨hlt, rfl⟩ := rng_get hi
    have hp : 2 ^ i ≤ 2 ^ 8 := Nat.pow_le_pow_right (by omega) (by omega)
    have hwl := wab_len i
    refine ev_ ?_
    refine x_forK (fun j E => ∃ z4, E = [some (.dat (.int (n : Nat))), some (.dat (.lst ((wab i).map D.str))), some (.dat (.int (0 + (i : Int)))), some (.own (.lst ((((wab i).take j).flatMap fun w => [w ++ [97], w ++ [98]]).map D.str))), z4, none]) ⟨_, rfl⟩ ?_ ?_
    · rintro j d E hj ⟨z4, rfl⟩
      obtain ⟨w, hw, rfl⟩ := map_get hj
      have hwm := (wab_mem.mp (List.mem_of_getElem? hw)).1
      have hfl := flat_len (l := (wab i).take j) (f := fun w => [w ++ [97], w ++ [98]]) (n := 2) fun x _ => by simp
      rw [List.length_take] at hfl
      refine ev_ ?_
      refine x_lcM' (fun d => match d with | .str s => .str (w ++ s) | _ => .non) (fun i d hi => ?_) ?_
      · obtain ⟨c, hc, rfl⟩ := map_get hi
        refine ev_ ⟨by rw [List.length_singleton]; omega, ?_⟩
        exact yK_c hi (by rw [List.length_map]; simp) rfl rfl
      · refine ev_ ⟨by rw [List.length_map, List.length_map, List.length_map]; simp only [List.length_cons, List.length_nil]; omega, some (.dat (.str w)), ?_⟩
        rw [flat_take _ hw, List.map_append]; rfl
    · rintro E ⟨z4, rfl⟩
      rw [List.length_map, List.take_length]
      exact ev_ ⟨_, _, _, rfl⟩
  · rintro E ⟨z2, z3, z4, rfl⟩
    rw [rng_len, show ((n : Int)).toNat = n by omega]
    exact ev_ k
abbrev hd4 : List Nat := [83, 65, 66, 67]
/-- half-drawn: the heads Hs up to i -/
structure Hlf (Hs : List Nat) (i : Nat) (G : Gm) : Prop where
  hs : hds G = Hs.take i
  ok : ∀ q ∈ G, q.2.length ≤ 3 ∧ (∀ p ∈ q.2, p.length ≤ 3 ∧ ∀ c ∈ p, c ∈ Hs ∨ c = 97 ∨ c = 98) ∧ q.2.Nodup ∧ q.2.Pairwise fun a b => leW a b = true
theorem hd4_take {k : Nat} (h : 1 ≤ k) (h4 : k ≤ 4) : (hd4.take k).Nodup ∧ (hd4.take k).length = k ∧ ∀ c ∈ hd4.take k, 65 ≤ c ∧ c ≤ 90 := by
  have : k = 1 ∨ k = 2 ∨ k = 3 ∨ k = 4 := by omega
  rcases this with rfl | rfl | rfl | rfl <;> decide
theorem Hlf.done {m k : Nat} {G : Gm} (h : Hlf (hd4.take k) k G) (h1 : 1 ≤ k) (hm : k ≤ m) (h4 : m ≤ 4) : Gdr m G := by
  obtain ⟨t1, t2, t3⟩ := hd4_take h1 (Nat.le_trans hm h4)
  have e : hds G = hd4.take k := by rw [h.hs, List.take_take, Nat.min_self]
  have hr : ∀ x, rs G x = [] ∨ (x, rs G x) ∈ G := fun x => by
    by_cases z : x ∈ hds G
    · exact .inr (rs_in z)
    · exact .inl (rs_out z)
  refine ⟨⟨⟨by rw [e]; exact t1, ?_, by rw [e]; exact t3, fun x p hp => ?_, fun x => ?_⟩, fun x p hp c hc => ?_⟩, ⟨k, h1, hm, e⟩, fun x => ?_, fun x => ?_⟩
  · have := congrArg List.length e
    unfold hds at this
    rw [List.length_map, t2] at this
    omega
  · rcases hr x with z | z
    · rw [z] at hp; cases hp
    · obtain ⟨a, b⟩ := (h.ok _ z).2.1 p hp
      refine ⟨a, fun c hc => ?_⟩
      rcases b c hc with y | y | y
      · have := t3 c y; omega
      · omega
      · omega
  · rcases hr x with z | z
    · rw [z]; exact Nat.zero_le _
    · have : (rs G x).length ≤ 3 := (h.ok _ z).1
      show (rs G x).length ≤ 4; omega
  · rcases hr x with z | z
    · rw [z] at hp; cases hp
    · rw [e]; exact ((h.ok _ z).2.1 p hp).2 c hc
  · rcases hr x with z | z
    · rw [z]; exact Nat.zero_le _
    · exact (h.ok _ z).1
  · rcases hr x with z | z
    · rw [z]; exact ⟨.nil, .nil⟩
    · exact (h.ok _ z).2.2
theorem law__law_grammar_drawn : ∀ p a0 a1 Pp, f__law_grammar_drawn a0 a1 Pp → LP N__law_grammar_drawn w__law_grammar_drawn p a0 [a1] Pp := by
  rintro p a0 a1 Pp ⟨hp, n, rfl, hn1, hn4, kk⟩
  unfold N__law_grammar_drawn w__law_grammar_drawn
  walk_at "start"
  refine ev_ ⟨hp, ⟨by omega, by omega⟩, fun v d' v0 v1 hd' => ?_⟩
  obtain ⟨k, rfl⟩ := Int.eq_ofNat_of_zero_le v0
  have e0 : cut [D.str [83], D.str [65], D.str [66], D.str [67]] none (some (1 + (k : Int))) = sgs (hd4.take (k + 1)) := by
    rw [cut_to _ (by omega), show (1 + (k : Int)).toNat = k + 1 by omega]
    unfold sgs hd4
    rw [List.map_take]; rfl
  rw [e0]
  obtain ⟨t1, t2, t3⟩ := hd4_take (k := k + 1) (by omega) (by omega)
  have hHs : ∃ Hs, Hs = hd4.take (k + 1) := ⟨_, rfl⟩
  obtain ⟨Hs, eHs⟩ := hHs
  rw [← eHs] at t1 t2 t3 ⊢
  refine ev_ ?_
  refine x_forK (fun i E => ∃ (G : Gm) (d' : D) (z4 z5 z6 z7 z8 : Option B), Hlf Hs i G ∧ isPool d' ∧ E = [some (.par p d'), some (.dat (.int (n : Nat))), some (.dat (.lst (sgs Hs))), some (.own (.dct false (kdD rowD (gmW G)))), z4, z5, z6, z7, z8]) ⟨[], d', _, _, _, _, _, ⟨by simp [hds], fun q h => by cases h⟩, hd', rfl⟩ ?_ ?_
  · rintro i d E hi ⟨G, d', z4, z5, z6, z7, z8, hG, hd', rfl⟩
    obtain ⟨c, hc, rfl⟩ := sgs_get hi
    have hil := (List.getElem?_eq_some_iff.mp hc).1
    refine ev_ ⟨hd', fun d2 hd2 => ?_⟩
    refine ev_ ?_
    refine x_wJ (fun b E => ∃ (m : Nat) (d3 : D), m ≤ 3 ∧ isPool d3 ∧ b = .dat (.int (m : Nat)) ∧ E = [some (.par p d3), some (.dat (.int (n : Nat))), some (.dat (.lst (sgs Hs))), some (.own (.dct false (kdD rowD (gmW G)))), some (.dat (.str [c])), some (.own (.lst [])), z6, z7, z8]) (fun Q' hQ => ?_) ?_
    · refine ev_ ?_
      refine ev_iteN (fun _ => ⟨hd2, ⟨by omega, by omega⟩, fun v d3 v0 v1 hd3 => ?_⟩) (fun _ => ⟨hd2, ⟨by omega, by omega⟩, fun v d3 v0 v1 hd3 => ?_⟩)
      · exact hQ _ _ ⟨v.toNat, d3, by omega, hd3, by congr 2; omega, rfl⟩
      · exact hQ _ _ ⟨(1 + v).toNat, d3, by omega, hd3, by congr 2; omega, rfl⟩
    · rintro b E ⟨m, d3, hm, hd3, rfl, rfl⟩
      refine ev_ ⟨⟨by omega, by omega⟩, ?_⟩
      refine x_forK (fun j E => ∃ (T : List Wo) (d' : D) (z6 z7 z8 : Option B), T.length ≤ j ∧ T.Nodup ∧ (∀ p ∈ T, p.length ≤ 3 ∧ ∀ c ∈ p, c ∈ Hs ∨ c = 97 ∨ c = 98) ∧ isPool d' ∧ E = [some (.par p d'), some (.dat (.int (n : Nat))), some (.dat (.lst (sgs Hs))), some (.own (.dct false (kdD rowD (gmW G)))), some (.dat (.str [c])), some (.own (.lst (T.map D.str))), z6, z7, z8]) ⟨[], d3, _, _, _, by simp, .nil, (fun p h => by cases h), hd3, rfl⟩ ?_ ?_
      · rintro j d E hj ⟨T, d4, z6, z7, z8, hT1, hT2, hT3, hd4, rfl⟩
        obtain ⟨hjl, rfl⟩ := rng_get hj
        refine ev_ ⟨hd4, ⟨by omega, by omega⟩, fun v d5 v0 v1 hd5 => ⟨⟨by omega, by omega⟩, ?_⟩⟩
        refine x_forK (fun l E => ∃ (s : Wo) (d' : D) (z8 : Option B), s.length = l ∧ (∀ c ∈ s, c ∈ Hs ∨ c = 97 ∨ c = 98) ∧ isPool d' ∧ E = [some (.par p d'), some (.dat (.int (n : Nat))), some (.dat (.lst (sgs Hs))), some (.own (.dct false (kdD rowD (gmW G)))), some (.dat (.str [c])), some (.own (.lst (T.map D.str))), some (.dat (.int (0 + (j : Int)))), some (.dat (.str s)), z8]) ⟨[], d5, _, rfl, (fun p h => by cases h), hd5, rfl⟩ ?_ ?_
        · rintro l d E hl ⟨s, d6, z8, hs1, hs2, hd6, rfl⟩
          obtain ⟨hll, rfl⟩ := rng_get hl
          refine ev_ ⟨by rw [sgs_len]; simp only [List.length_cons, List.length_nil]; omega, hd6, ⟨by simp, by rw [List.length_append, sgs_len]; simp only [List.length_cons, List.length_nil]; omega⟩, fun x d7 hx hd7 => ?_⟩
          have hx2 : ∃ c, x = .str [c] ∧ (c ∈ Hs ∨ c = 97 ∨ c = 98) := by
            rcases List.mem_append.mp hx with z | z
            · simp only [List.mem_cons, List.not_mem_nil, or_false] at z
              rcases z with rfl | rfl | rfl | rfl
              · exact ⟨97, rfl, .inr (.inl rfl)⟩
              · exact ⟨98, rfl, .inr (.inr rfl)⟩
              · exact ⟨97, rfl, .inr (.inl rfl)⟩
              · exact ⟨98, rfl, .inr (.inr rfl)⟩
            · obtain ⟨c, hc, rfl⟩ := List.mem_map.mp z
              exact ⟨c, rfl, .inl hc⟩
          obtain ⟨c', rfl, hc'⟩ := hx2
          refine ev_ ⟨by rw [List.length_singleton]; omega, s ++ [c'], d7, _, by rw [List.length_append, List.length_singleton, hs1], fun y hy => ?_, hd7, rfl⟩
          rcases List.mem_append.mp hy with z | z
          · exact hs2 y z
          · rw [List.mem_singleton.mp z]; exact hc'
        · rintro E ⟨s, d6, z8, hs1, hs2, hd6, rfl⟩
          rw [rng_len] at hs1
          refine ev_ ⟨.inl ⟨rfl, flat_strs _⟩, ?_⟩
          rw [anyD_strs]
          refine ev_iteN (fun g => ?_) (fun g => ?_)
          · refine ⟨by rw [List.length_map]; omega, T ++ [s], d6, _, _, _, by rw [List.length_append, List.length_singleton]; omega, ?_, fun q hq => ?_, hd6, by rw [List.map_append]; rfl⟩
            · rw [List.nodup_append]
              exact ⟨hT2, by simp, fun a ha b hb e => g (by rw [← List.mem_singleton.mp hb, ← e]; exact ha)⟩
            · rcases List.mem_append.mp hq with z | z
              · exact hT3 q z
              · rw [List.mem_singleton.mp z]; exact ⟨by omega, hs2⟩
          · exact ⟨T, d6, _, _, _, by omega, hT2, hT3, hd6, rfl⟩
      · rintro E ⟨T, d4, z6, z7, z8, hT1, hT2, hT3, hd4, rfl⟩
        rw [rng_len] at hT1
        have okT : ∀ s ∈ T, okS s := fun s hs c hc => by
          rcases (hT3 s hs).2 c hc with y | y | y
          · have := t3 c y; omega
          · omega
          · omega
        have hGl : G.length ≤ 4 := by
          have := congrArg List.length hG.hs
          unfold hds at this
          rw [List.length_map, List.length_take] at this
          omega
        refine ev_ ⟨sortOk_strs okT, rfl, by rw [len_gD]; omega, ?_⟩
        have hput : putD (kdD rowD (gmW G)) (.str [c]) (.lst ((T.map D.str).mergeSort leD)) = kdD rowD (gmW (G ++ [(c, srtW T)])) := by
          rw [sort_strs]
          have e1 := putD_kdD rowD [c] (srtW T) (gmW G)
          refine e1.trans ?_
          congr 1
          unfold pt
          rw [if_neg]
          · unfold gmW; rw [List.map_append]; rfl
          · rw [List.any_eq_true]
            rintro ⟨q, hq, e⟩
            obtain ⟨q0, hq0, rfl⟩ := List.mem_map.mp hq
            have e := of_decide_eq_true e
            have e : q0.1 = c := by simpa using e
            have hm : c ∈ hds G := by rw [← e]; exact List.mem_map.mpr ⟨q0, hq0, rfl⟩
            rw [hG.hs] at hm
            obtain ⟨l, hl, el⟩ := List.getElem_of_mem hm
            rw [List.length_take] at hl
            rw [List.getElem_take] at el
            have := (List.pairwise_iff_getElem.mp t1) l i (by omega) hil (by omega)
            rw [el, (List.getElem?_eq_some_iff.mp hc).2] at this
            exact this rfl
        rw [hput]
        refine ⟨G ++ [(c, srtW T)], d4, _, _, _, _, _, ⟨?_, fun q hq => ?_⟩, hd4, rfl⟩
        · have := hG.hs
          unfold hds at this ⊢
          rw [List.map_append, this, take_snoc hc]; rfl
        · rcases List.mem_append.mp hq with z | z
          · exact hG.ok q z
          · rw [List.mem_singleton.mp z]
            refine ⟨by show (srtW T).length ≤ 3; unfold srtW; rw [List.length_mergeSort]; omega, fun q hq => hT3 q (srtW_mem.mp hq), srtW_nodup hT2, srtW_pw T⟩
  · rintro E ⟨G, d', z4, z5, z6, z7, z8, hG, hd', rfl⟩
    rw [sgs_len, t2] at hG
    refine ev_ (kk G d' ?_ hd')
    rw [eHs] at hG
    exact hG.done (by omega) (by omega) hn4
theorem seg_eq {word : Wo} {i c : Nat} : (word.drop i).take 1 = [c] ↔ word[i]? = some c := by
  constructor
  · intro h
    have hi : i < word.length := Classical.byContradiction fun n => by rw [List.drop_eq_nil_of_le (by omega)] at h; cases h
    rw [List.drop_eq_getElem_cons hi] at h
    rw [List.getElem?_eq_getElem hi]
    exact congrArg some (List.cons.inj h).1
  · exact seg_one
theorem Span.univ {G : Gm} {word : Wo} {t : Sp3} (h : Span G word t) : t ∈ univ (hds G) word.length := univ_mem h.1 h.2.1 h.2.2.1
theorem spans_len {G : Gm} {word : Wo} {L : List Sp3} (hL : L.Nodup) (h : ∀ t ∈ L, Span G word t) : L.length ≤ G.length * tri word.length := by
  have := nodup_len hL fun t ht => (h t ht).univ
  rw [univ_len] at this
  unfold hds at this
  rwa [List.length_map] at this
theorem law__law_spans : ∀ a0 a1 Pp, f__law_spans a0 a1 Pp → LF N__law_spans w__law_spans [a0, a1] Pp := by
  rintro a0 a1 Pp ⟨G, word, rfl, rfl, hG, hwl, htri, k⟩
  unfold N__law_spans w__law_spans gD
  walk_at "start"
  have okL : ∀ {L : List Sp3}, (∀ t ∈ L, Span G word t) → okD (.lst (L.map encS)) = true := fun h => (okN_sps fun t ht => by have := hG.up _ (h t ht).1; omega).ok
  refine ev_ ⟨⟨by decide, by decide⟩, ?_⟩
  refine x_forK (fun t E => ∃ (L : List Sp3) (z3 z4 z5 z6 z7 z8 z9 z10 z11 : Option B), L.Nodup ∧ (∀ t ∈ L, Span G word t) ∧ t ≤ L.length ∧ E = [some (.dat (.dct false (kdD rowD (gmW G)))), some (.dat (.str word)), some (.own (.lst (L.map encS))), z3, z4, z5, z6, z7, z8, z9, z10, z11, none]) ⟨[], none, none, none, none, none, none, none, none, none, .nil, (fun t h => by cases h), Nat.le_refl _, rfl⟩ ?_ ?_
  · rintro t d E ht ⟨L, z3, z4, z5, z6, z7, z8, z9, z10, z11, nL, sL, lL, rfl⟩
    obtain ⟨htl, rfl⟩ := rng_get ht
    have hLl := spans_len nL sL
    refine ev_ ⟨(hds G).map (fun c => [c]), keys_gD' G, ?_⟩
    rw [sort_gD]
    refine x_forK (fun i E => ∃ (N : List Sp3) (z5 z6 z7 z8 z9 z10 z11 : Option B), (L ++ N).Nodup ∧ (∀ t ∈ N, Span G word t) ∧ (∀ h ∈ (sh G).take i, ∀ p ∈ rs G h, ∀ f j, EndS G word (· ∈ L) p f j → (h, f, j) ∈ L ++ N) ∧ E = [some (.dat (.dct false (kdD rowD (gmW G)))), some (.dat (.str word)), some (.own (.lst (L.map encS))), some (.dat (.int (0 + (t : Int)))), some (.own (.lst (N.map encS))), z5, z6, z7, z8, z9, z10, z11, none]) ⟨[], z5, z6, z7, z8, z9, z10, z11, by rw [List.append_nil]; exact nL, (fun t h => by cases h), by simp, rfl⟩ ?_ ?_
    · rintro i d E hi ⟨N, z5, z6, z7, z8, z9, z10, z11, nN, sN, cN, rfl⟩
      obtain ⟨h, hh, rfl⟩ := sgs_get hi
      have hhG := GW.sh_mem.mp (List.mem_of_getElem? hh)
      refine ev_ ⟨rfl, _, look_at hhG, ?_⟩
      unfold rowD
      refine ev_ ?_
      refine x_forK (fun j E => ∃ (N : List Sp3) (z6 z7 z8 z9 z10 z11 : Option B), (L ++ N).Nodup ∧ (∀ t ∈ N, Span G word t) ∧ (∀ h ∈ (sh G).take i, ∀ p ∈ rs G h, ∀ f j, EndS G word (· ∈ L) p f j → (h, f, j) ∈ L ++ N) ∧ (∀ p ∈ (rs G h).take j, ∀ f j, EndS G word (· ∈ L) p f j → (h, f, j) ∈ L ++ N) ∧ E = [some (.dat (.dct false (kdD rowD (gmW G)))), some (.dat (.str word)), some (.own (.lst (L.map encS))), some (.dat (.int (0 + (t : Int)))), some (.own (.lst (N.map encS))), some (.dat (.str [h])), z6, z7, z8, z9, z10, z11, none]) ⟨N, z6, z7, z8, z9, z10, z11, nN, sN, cN, by simp, rfl⟩ ?_ ?_
      · clear nN sN cN N
        rintro j d E hj ⟨N, z6, z7, z8, z9, z10, z11, nN, sN, cN, dN, rfl⟩
        obtain ⟨p, hp, rfl⟩ := map_get hj
        have hpm := List.mem_of_getElem? hp
        have hpl := (hG.rul h p hpm).1
        have hpo := (hG.rul h p hpm).2
        refine ev_ ⟨by omega, ⟨by omega, by omega⟩, ?_⟩
        refine x_forK (fun f E => ∃ (N : List Sp3) (z7 z8 z9 z10 z11 : Option B), (L ++ N).Nodup ∧ (∀ t ∈ N, Span G word t) ∧ (∀ h ∈ (sh G).take i, ∀ p ∈ rs G h, ∀ f j, EndS G word (· ∈ L) p f j → (h, f, j) ∈ L ++ N) ∧ (∀ p ∈ (rs G h).take j, ∀ f j, EndS G word (· ∈ L) p f j → (h, f, j) ∈ L ++ N) ∧ (∀ f' < f, ∀ j, EndS G word (· ∈ L) p f' j → (h, f', j) ∈ L ++ N) ∧ E = [some (.dat (.dct false (kdD rowD (gmW G)))), some (.dat (.str word)), some (.own (.lst (L.map encS))), some (.dat (.int (0 + (t : Int)))), some (.own (.lst (N.map encS))), some (.dat (.str [h])), some (.dat (.str p)), z7, z8, z9, z10, z11, none]) ⟨N, z7, z8, z9, z10, z11, nN, sN, cN, dN, (fun f' h => by omega), rfl⟩ ?_ ?_
        · clear nN sN cN dN N
          rintro f d E hf ⟨N, z7, z8, z9, z10, z11, nN, sN, cN, dN, eN, rfl⟩
          obtain ⟨hfl, rfl⟩ := rng_get hf
          have hfl : f ≤ word.length := by omega
          refine ev_ ?_
          refine x_forK (fun m E => ∃ (X : List Nat) (z9 z10 z11 : Option B), X.Nodup ∧ (∀ x, x ∈ X ↔ EndS G word (· ∈ L) (p.take m) f x) ∧ E = [some (.dat (.dct false (kdD rowD (gmW G)))), some (.dat (.str word)), some (.own (.lst (L.map encS))), some (.dat (.int (0 + (t : Int)))), some (.own (.lst (N.map encS))), some (.dat (.str [h])), some (.dat (.str p)), some (.dat (.int (0 + (f : Int)))), some (.own (.lst (X.map fun x => D.int (x : Nat)))), z9, z10, z11, none]) ⟨[f], z9, z10, z11, by simp, fun x => ?_, by simp⟩ ?_ ?_
          · rw [List.take_zero, EndS.nil_iff, List.mem_singleton]
            exact ⟨fun e => ⟨hfl, e⟩, fun e => e.2⟩
          · rintro m d E hm ⟨X, z9, z10, z11, nX, mX, rfl⟩
            obtain ⟨c, hc, rfl⟩ := map_get hm
            have hcp := List.mem_of_getElem? hc
            have hXw : ∀ x ∈ X, x ≤ word.length := fun x hx => ((mX x).mp hx).le.2
            have hXl := nodup_len nX (m := List.range (word.length + 1)) fun x hx => List.mem_range.mpr (by have := hXw x hx; omega)
            rw [List.length_range] at hXl
            refine ev_ ?_
            refine x_forK (fun l E => ∃ (Y : List Nat) (z11 : Option B), Y.length ≤ l * 10 ∧ (∀ y, y ∈ Y ↔ ∃ x ∈ X.take l, stpS G word (· ∈ L) c x y) ∧ E = [some (.dat (.dct false (kdD rowD (gmW G)))), some (.dat (.str word)), some (.own (.lst (L.map encS))), some (.dat (.int (0 + (t : Int)))), some (.own (.lst (N.map encS))), some (.dat (.str [h])), some (.dat (.str p)), some (.dat (.int (0 + (f : Int)))), some (.dat (.lst (X.map fun x => D.int (x : Nat)))), some (.dat (.str [c])), some (.own (.lst (Y.map fun x => D.int (x : Nat)))), z11, none]) ⟨[], z11, by simp, by simp, rfl⟩ ?_ ?_
            · rintro l d E hl ⟨Y, z11, lY, mY, rfl⟩
              obtain ⟨x, hx, rfl⟩ := map_get hl
              have hxX := List.mem_of_getElem? hx
              have hxw := hXw x hxX
              have hll := (List.getElem?_eq_some_iff.mp hx).1
              have fin : ∀ Z : List Nat, Z.length ≤ 10 → (∀ y, y ∈ Z ↔ stpS G word (· ∈ L) c x y) → (Y ++ Z).length ≤ (l + 1) * 10 ∧ ∀ y, y ∈ Y ++ Z ↔ ∃ x ∈ X.take (l + 1), stpS G word (· ∈ L) c x y := fun Z hZ mZ => by
                refine ⟨by rw [List.length_append]; omega, fun y => ?_⟩
                rw [List.mem_append, mY, mZ, take_snoc hx]
                constructor
                · rintro (⟨a, ha, s⟩ | s)
                  · exact ⟨a, List.mem_append_left _ ha, s⟩
                  · exact ⟨x, by simp, s⟩
                · rintro ⟨a, ha, s⟩
                  rcases List.mem_append.mp ha with z | z
                  · exact .inl ⟨a, z, s⟩
                  · rw [List.mem_singleton.mp z] at s; exact .inr s
              refine ev_ ⟨rfl, ?_⟩
              rw [in_gD]
              refine ev_iteN (fun hcG => ?_) (fun hcG => ?_)
              · refine ⟨by omega, ?_⟩
                have hst : ∀ y, stpS G word (· ∈ L) c x y ↔ word[x]? = some c ∧ y = x + 1 := fun y => by unfold stpS; rw [if_neg hcG]
                have ec : cut word (some (x : Int)) (some ((x : Int) + 1)) = (word.drop x).take 1 := by
                  rw [cut_mid _ (by omega) (by omega)]
                  congr 1
                  omega
                rw [ec]
                refine ev_ite (fun g => ?_) (fun g => ?_)
                · obtain ⟨a, b⟩ := fin [x + 1] (by simp) fun y => by rw [hst, List.mem_singleton]; exact ⟨fun e => ⟨seg_eq.mp g, e⟩, fun e => e.2⟩
                  refine ⟨by rw [List.length_map]; simp only [List.length_cons, List.length_nil]; omega, Y ++ [x + 1], _, a, b, by rw [List.map_append]; rfl⟩
                · obtain ⟨a, b⟩ := fin [] (by simp) fun y => by rw [hst]; exact ⟨(fun e => by cases e), fun e => (g (seg_eq.mpr e.1)).elim⟩
                  refine ⟨by rw [List.length_map]; simp only [List.length_nil]; omega, Y ++ [], _, a, b, by rw [List.map_append]; rfl⟩
              · refine ⟨by omega, ⟨by omega, by omega, by omega, by omega⟩, ?_⟩
                have er : rng (x : Int) ((word.length : Int) + 1 - (x : Int)).toNat = ((List.range (word.length + 1 - x)).map (x + ·)).map fun j => D.int (j : Nat) := by
                  unfold rng
                  rw [List.map_map, show ((word.length : Int) + 1 - (x : Int)).toNat = word.length + 1 - x by omega]
                  apply List.map_congr_left
                  intro y _
                  show D.int _ = D.int _
                  congr 1
                rw [er]
                refine x_lcF' (fun d => match d with | .int j => decide ((c, x, j.toNat) ∈ L) | _ => false) id (fun a d ha => ?_) ?_
                · obtain ⟨y, hy, rfl⟩ := map_get ha
                  have hcc := hpo c hcp
                  refine ev_ ⟨.inr ⟨(okN_sp (t := (c, x, y)) hcc).ok, okL sL⟩, ?_⟩
                  rw [show D.tup [D.str [c], D.int (x : Nat), D.int (y : Nat)] = encS (c, x, y) from rfl, any_sp]
                  refine ev_ite (fun e => ?_) (fun e => ?_)
                  · exact yK_c ha (by rw [List.length_map, List.length_map, List.length_range]; omega) (by show decide ((c, x, ((y : Nat) : Int).toNat) ∈ L) = true; rw [Int.toNat_natCast]; exact decide_eq_true e) rfl
                  · exact nK_c ha (by show decide ((c, x, ((y : Nat) : Int).toNat) ∈ L) = false; rw [Int.toNat_natCast]; exact decide_eq_false e)
                · have ef : ((((List.range (word.length + 1 - x)).map (x + ·)).map fun j => D.int (j : Nat)).filter fun d => match d with | .int j => decide ((c, x, j.toNat) ∈ L) | _ => false).map id = (((List.range (word.length + 1 - x)).map (x + ·)).filter fun j => decide ((c, x, j) ∈ L)).map fun j => D.int (j : Nat) := by
                    rw [List.map_id, List.filter_map]
                    congr 1
                  rw [ef]
                  obtain ⟨a, b⟩ := fin (((List.range (word.length + 1 - x)).map (x + ·)).filter fun j => decide ((c, x, j) ∈ L)) (by
                    have := List.length_filter_le (fun j => decide ((c, x, j) ∈ L)) ((List.range (word.length + 1 - x)).map (x + ·))
                    rw [List.length_map, List.length_range] at this
                    omega) fun y => by
                    unfold stpS
                    rw [if_pos hcG, List.mem_filter, decide_eq_true_iff, List.mem_map]
                    constructor
                    · rintro ⟨⟨q, hq, e⟩, hm⟩
                      have := List.mem_range.mp hq
                      exact ⟨hm, by omega, by omega⟩
                    · rintro ⟨hm, h1, h2⟩
                      exact ⟨⟨y - x, List.mem_range.mpr (by omega), by omega⟩, hm⟩
                  have hfl2 := List.length_filter_le (fun j => decide ((c, x, j) ∈ L)) ((List.range (word.length + 1 - x)).map (x + ·))
                  rw [List.length_map, List.length_range] at hfl2
                  refine ev_ ⟨by rw [List.length_map, List.length_map]; omega, _, _, a, b, by rw [List.map_append]⟩
            · rintro E ⟨Y, z11, lY, mY, rfl⟩
              rw [List.length_map] at lY mY
              rw [List.take_length] at mY
              refine ev_ ?_
              refine f_diff_nats (by omega) ?_
              refine ev_ ⟨df [] Y, _, _, _, df_nodup _, fun y => ?_, rfl⟩
              rw [df_mem, mY, take_snoc hc, EndS.snoc_iff]
              constructor
              · rintro ⟨a, ha, s⟩; exact ⟨a, (mX a).mp ha, s⟩
              · rintro ⟨a, ha, s⟩; exact ⟨a, (mX a).mpr ha, s⟩
          · rintro E ⟨X, z9, z10, z11, nX, mX, rfl⟩
            rw [List.length_map, List.take_length] at mX
            have hXw : ∀ x ∈ X, x ≤ word.length := fun x hx => ((mX x).mp hx).le.2
            have hXl := nodup_len nX (m := List.range (word.length + 1)) fun x hx => List.mem_range.mpr (by have := hXw x hx; omega)
            rw [List.length_range] at hXl
            have sLN : ∀ t ∈ L ++ N, Span G word t := fun t ht => by
              rcases List.mem_append.mp ht with z | z
              · exact sL t z
              · exact sN t z
            have hLN := spans_len nN sLN
            rw [List.length_append] at hLN
            refine ev_ ?_
            refine x_lcF' (fun d => match d with | .int j => !decide ((h, f, j.toNat) ∈ L) && !decide ((h, f, j.toNat) ∈ N) | _ => false) (fun d => match d with | .int j => encS (h, f, j.toNat) | _ => .non) (fun a d ha => ?_) ?_
            · obtain ⟨y, hy, rfl⟩ := map_get ha
              have hcc : h < 1114112 := by have := hG.up h hhG; omega
              have e1 : D.tup [D.str [h], D.int (0 + (f : Int)), D.int (y : Nat)] = encS (h, f, y) := by rw [Int.zero_add]; rfl
              refine ev_ ⟨.inr ⟨by rw [e1]; exact (okN_sp (t := (h, f, y)) hcc).ok, okL sL⟩, ?_⟩
              rw [e1, any_sp]
              have pe : ∀ b : Bool, (!decide ((h, f, y) ∈ L) && !decide ((h, f, y) ∈ N)) = b → (match (D.int (y : Nat)) with | .int j => !decide ((h, f, j.toNat) ∈ L) && !decide ((h, f, j.toNat) ∈ N) | _ => false) = b := fun b e => e
              refine ev_iteN (fun e => ?_) (fun e => ?_)
              · refine ⟨.inr ⟨by rw [e1]; exact (okN_sp (t := (h, f, y)) hcc).ok, okL sN⟩, ?_⟩
                rw [e1, any_sp]
                refine ev_iteN (fun e2 => ?_) (fun e2 => ?_)
                · exact yK_c ha (by rw [List.length_map]; omega) (pe true (by rw [decide_eq_false e, decide_eq_false e2]; rfl)) e1
                · exact nK_c ha (pe false (by rw [decide_eq_true e2, Bool.not_true, Bool.and_false]))
              · exact nK_c ha (pe false (by rw [decide_eq_true e]; rfl))
            · have ef : ((X.map fun x => D.int (x : Nat)).filter fun d => match d with | .int j => !decide ((h, f, j.toNat) ∈ L) && !decide ((h, f, j.toNat) ∈ N) | _ => false).map (fun d => match d with | .int j => encS (h, f, j.toNat) | _ => .non) = ((X.filter fun j => !decide ((h, f, j) ∈ L) && !decide ((h, f, j) ∈ N)).map fun j => (h, f, j)).map encS := by
                rw [List.filter_map, List.map_map, List.map_map]; rfl
              rw [ef]
              have hM : ∀ j, j ∈ X.filter (fun j => !decide ((h, f, j) ∈ L) && !decide ((h, f, j) ∈ N)) ↔ EndS G word (· ∈ L) p f j ∧ (h, f, j) ∉ L ++ N := fun j => by
                rw [List.mem_filter, mX, List.mem_append]; simp
              have nM : (X.filter (fun j => !decide ((h, f, j) ∈ L) && !decide ((h, f, j) ∈ N))).Nodup := nX.sublist List.filter_sublist
              have lM := List.length_filter_le (fun j => !decide ((h, f, j) ∈ L) && !decide ((h, f, j) ∈ N)) X
              generalize X.filter (fun j => !decide ((h, f, j) ∈ L) && !decide ((h, f, j) ∈ N)) = M at hM nM lM
              refine ev_ ⟨by rw [List.length_map, List.length_map, List.length_map]; omega, N ++ M.map fun j => (h, f, j), _, _, _, _, _, ?_, fun t ht => ?_, fun x hx q hq f' j he => ?_, fun q hq f' j he => ?_, fun f' hf' j he => ?_, by rw [List.map_append]⟩
              · rw [← List.append_assoc]
                refine List.nodup_append.mpr ⟨nN, List.Pairwise.map _ (fun a b hne e => hne (by simpa using e)) nM, fun a ha b hb e => ?_⟩
                obtain ⟨j, hj, rfl⟩ := List.mem_map.mp hb
                rw [e] at ha
                exact ((hM j).mp hj).2 ha
              · rcases List.mem_append.mp ht with z | z
                · exact sN t z
                · obtain ⟨j, hj, rfl⟩ := List.mem_map.mp z
                  have he := ((hM j).mp hj).1
                  exact ⟨hhG, he.le.1, he.le.2, .one hpm (he.grows sL)⟩
              · rw [← List.append_assoc]; exact List.mem_append_left _ (cN x hx q hq f' j he)
              · rw [← List.append_assoc]; exact List.mem_append_left _ (dN q hq f' j he)
              · rw [← List.append_assoc]
                rcases Nat.lt_or_ge f' f with z | z
                · exact List.mem_append_left _ (eN f' z j he)
                · have : f' = f := by omega
                  subst this
                  by_cases y : (h, f', j) ∈ L ++ N
                  · exact List.mem_append_left _ y
                  · exact List.mem_append_right _ (List.mem_map.mpr ⟨j, (hM j).mpr ⟨he, y⟩, rfl⟩)
        · rintro E ⟨N, z7, z8, z9, z10, z11, nN, sN, cN, dN, eN, rfl⟩
          rw [rng_len] at eN
          refine ⟨N, _, _, _, _, _, _, nN, sN, cN, fun q hq f j he => ?_, rfl⟩
          rw [take_snoc hp] at hq
          rcases List.mem_append.mp hq with z | z
          · exact dN q z f j he
          · rw [List.mem_singleton.mp z] at he
            have := he.le
            exact eN f (by omega) j he
      · rintro E ⟨N, z6, z7, z8, z9, z10, z11, nN, sN, cN, dN, rfl⟩
        rw [List.length_map, List.take_length] at dN
        refine ⟨N, _, _, _, _, _, _, _, nN, sN, fun x hx q hq f j he => ?_, rfl⟩
        rw [take_snoc hh] at hx
        rcases List.mem_append.mp hx with z | z
        · exact cN x z q hq f j he
        · rw [List.mem_singleton.mp z] at hq ⊢; exact dN q hq f j he
    · rintro E ⟨N, z5, z6, z7, z8, z9, z10, z11, nN, sN, cN, rfl⟩
      rw [sgs_len, List.take_length] at cN
      have sLN : ∀ t ∈ L ++ N, Span G word t := fun t ht => by
        rcases List.mem_append.mp ht with z | z
        · exact sL t z
        · exact sN t z
      have hLN := spans_len nN sLN
      rw [List.length_append] at hLN
      refine ev_ ⟨by rw [List.length_map, List.length_map]; omega, okL sN, rfl, ?_⟩
      cases N with
      | nil =>
        rw [show eqD (.lst (([] : List Sp3).map encS)) (.lst []) = true by rw [eqD_lst]; rfl]
        refine ev_ ?_
        rw [List.append_nil] at cN
        rw [show L.map encS ++ ([] : List Sp3).map encS = L.map encS by simp]
        refine k L nL fun t => ⟨sL t, fun s => ?_⟩
        exact span_all (fd := (· ∈ L)) (fun x hx q hq f j he => cN x (GW.sh_mem.mpr hx) q hq f j he) s
      | cons a N =>
        rw [show eqD (.lst ((a :: N).map encS)) (.lst []) = false by rw [eqD_lst]; rfl]
        refine ev_ ⟨L ++ a :: N, _, _, _, _, _, _, _, _, _, nN, sLN, ?_, by rw [List.map_append]⟩
        rw [List.length_append, List.length_cons]
        omega
  · rintro E ⟨L, z3, z4, z5, z6, z7, z8, z9, z10, z11, nL, sL, lL, rfl⟩
    have hLl := spans_len nL sL
    rw [rng_len] at lL
    have : (Int.toNat 200) = 200 := rfl
    omega
theorem law__law_grows : ∀ a0 a1 a2 Pp, f__law_grows a0 a1 a2 Pp → LF N__law_grows w__law_grows [a0, a1, a2] Pp := by
  rintro a0 a1 a2 Pp ⟨G, c, word, rfl, rfl, rfl, hG, hwl, htri, hc, k⟩
  unfold N__law_grows w__law_grows
  walk_at "start"
  refine ev_ ⟨by omega, G, word, rfl, rfl, hG, hwl, htri, fun L nL mL => ?_⟩
  have hu : ∀ t ∈ L, t.1 < 1114112 := fun t ht => by have := hG.up _ ((mL t).mp ht).1; omega
  have hcu : c < 1114112 := by have := hG.up c hc; omega
  have e1 : D.tup [D.str [c], D.int 0, D.int (word.length : Nat)] = encS (c, 0, word.length) := rfl
  rw [e1]
  refine ev_ ⟨.inr ⟨(okN_sp hcu).ok, (okN_sps hu).ok⟩, ?_⟩
  rw [any_sp]
  have : decide ((c, 0, word.length) ∈ L) = grw G c word := by
    rw [Bool.eq_iff_iff, decide_eq_true_iff, mL, grw_iff]
    constructor
    · rintro ⟨_, _, _, g⟩
      simpa using g
    · intro g
      refine ⟨hc, Nat.zero_le _, Nat.le_refl _, ?_⟩
      simpa using g
  rw [this]
  exact k
section
variable {G : Gm} {c : Nat} {P : B → Prop} {R : Prop}
instance [e : Ev (P (.own (.lst (sgs (sh G))))) R] : Ev (wSortK (gD G) P) R := ⟨fun h => ⟨(hds G).map (fun c => [c]), keys_gD' G, by rw [sort_gD]; exact e.h h⟩⟩
instance [e : Ev (P (.own (gD G))) R] {n : Nat} : Ev (f__law_copied n (gD G) P) (Cpy n (gD G) ∧ R) := ⟨fun h => ⟨h.1, e.h h.2⟩⟩
instance (priority := 2000) [e : Ev (P (.dat (.lst ((rs G c).map D.str)))) R] : Ev (wIx (gD G) (.str [c]) P) (c ∈ hds G ∧ R) := ⟨fun h => x_ixd rfl (look_at h.1) (e.h h.2)⟩
instance (priority := 2000) [e : Ev (P (.dat (.bl (decide (c ∈ hds G))))) R] : Ev (wIn (.str [c]) (gD G) P) R := ⟨fun h => x_ind rfl (by rw [in_gD]; exact e.h h)⟩
instance (priority := 2000) [e : Ev (P (.dat (.bl (!decide (c ∈ hds G))))) R] : Ev (wNin (.str [c]) (gD G) P) R := ⟨fun h => x_nind rfl (by rw [in_gD]; exact e.h h)⟩
end
theorem leW_app_f : ∀ {a b c d : Wo}, a.length = b.length → leW a b = false → leW (a ++ c) (b ++ d) = false
  | [], [], c, d, _, h => by rw [leW_self] at h; cases h
  | x :: a, y :: b, c, d, hl, h => by
    rw [leW_cons, decide_eq_false_iff_not] at h
    rw [List.cons_append, List.cons_append, leW_cons, decide_eq_false_iff_not]
    rintro (z | ⟨z, z'⟩)
    · exact h (.inl z)
    · have : leW a b = false := by
        cases e : leW a b with
        | false => rfl
        | true => exact (h (.inr ⟨z, e⟩)).elim
      rw [leW_app_f (Nat.succ.inj hl) this] at z'; cases z'
  | [], _ :: _, _, _, hl, _ => by cases hl
  | _ :: _, [], _, _, hl, _ => by cases hl
theorem leW_same_app (a : Wo) {c d : Wo} (h : leW c d = false) : leW (a ++ c) (a ++ d) = false := by
  induction a with
  | nil => exact h
  | cons x a ih =>
    rw [List.cons_append, List.cons_append, leW_cons, decide_eq_false_iff_not]
    rintro (z | ⟨_, z⟩)
    · omega
    · rw [ih] at z; cases z
/-- all words, in order -/
theorem wab_pw : ∀ n, (wab n).Pairwise fun a b => leW b a = false
  | 0 => by unfold wab; simp
  | n + 1 => by
    unfold wab
    have hl : ∀ w ∈ wab n, w.length = n := fun w hw => (wab_mem.mp hw).1
    have hp := wab_pw n
    generalize wab n = l at hl hp
    induction l with
    | nil => exact .nil
    | cons w l ih =>
      obtain ⟨h1, h2⟩ := List.pairwise_cons.mp hp
      rw [List.flatMap_cons, List.pairwise_append]
      refine ⟨?_, ih (fun x hx => hl x (List.mem_cons_of_mem _ hx)) h2, fun a ha b hb => ?_⟩
      · refine List.pairwise_cons.mpr ⟨fun b hb => ?_, List.pairwise_singleton _ _⟩
        rw [List.mem_singleton.mp hb]
        exact leW_same_app w (by rw [leW_one]; rfl)
      · obtain ⟨v, hv, hb⟩ := List.mem_flatMap.mp hb
        have e := leW_app_f (c := [97]) (d := [97]) (by rw [hl v (List.mem_cons_of_mem _ hv), hl w List.mem_cons_self]) (h1 v hv)
        simp only [List.mem_cons, List.not_mem_nil, or_false] at ha hb
        rcases ha with rfl | rfl <;> rcases hb with rfl | rfl <;> exact leW_app_f (by rw [hl v (List.mem_cons_of_mem _ hv), hl w List.mem_cons_self]) (h1 v hv)
theorem wab_nodup (n : Nat) : (wab n).Nodup := (wab_pw n).imp fun {a b} h e => by rw [e, leW_self] at h; cases h
/-- the first of those that hold -/
theorem wab_first {n : Nat} {p : Wo → Bool} {w : Wo} (hw : w ∈ wab n) (hp : p w = true) (hm : ∀ v ∈ wab n, p v = true → leW w v = true) : ((wab n).filter p)[0]? = some w := by
  have hf := (wab_pw n).sublist (List.filter_sublist (p := p))
  have hwf : w ∈ (wab n).filter p := List.mem_filter.mpr ⟨hw, hp⟩
  cases e : (wab n).filter p with
  | nil => rw [e] at hwf; cases hwf
  | cons a l =>
    rw [e] at hf hwf
    have ha : a ∈ (wab n).filter p := by rw [e]; exact List.mem_cons_self
    obtain ⟨a1, a2⟩ := List.mem_filter.mp ha
    have h1 := hm a a1 a2
    rcases List.mem_cons.mp hwf with z | z
    · rw [z]; rfl
    · have := (List.pairwise_cons.mp hf).1 w z
      rw [h1] at this; cases this

end PW

set_option Elab.async false
set_option linter.all false
set_option autoImplicit false
set_option maxRecDepth 100000
set_option maxHeartbeats 4000000
set_option synthInstance.maxHeartbeats 2000000
set_option synthInstance.maxSize 1000000
set_option exponentiation.threshold 5000
namespace PW
open PySem PySem.Spec PyProof.Rows L2
local macro_rules | `(tactic| walk_at "sta") => `(tactic| with_reducible repeat (first | exact StaR.z | apply StaR.c | apply StaR.n))
local macro_rules | `(tactic| walk_at "start") => `(tactic| with_reducible first | refine LF2 (by walk_at "sta") ?_ | refine LF1 (by walk_at "sta") ?_ | refine LF3 (by walk_at "sta") ?_ | refine LF4 (by walk_at "sta") ?_ | refine LF0 (by walk_at "sta") ?_ | refine LF5 (by walk_at "sta") ?_ | refine LF6 (by walk_at "sta") ?_ | refine LP0 (by walk_at "sta") ?_ | refine LP1 (by walk_at "sta") ?_ | refine LP2 (by walk_at "sta") ?_ | refine LP3 (by walk_at "sta") ?_ | refine LL1_0 (by walk_at "sta") ?_ | refine LL2_0 (by walk_at "sta") ?_ | refine LL2_1 (by walk_at "sta") ?_ | refine LL3_0 (by walk_at "sta") ?_ | refine LL3_1 (by walk_at "sta") ?_ | refine LL3_2 (by walk_at "sta") ?_ | refine LL4_0 (by walk_at "sta") ?_ | refine LL4_1 (by walk_at "sta") ?_ | refine LL4_2 (by walk_at "sta") ?_ | refine LL4_3 (by walk_at "sta") ?_ | refine LL5_0 (by walk_at "sta") ?_ | refine LL5_1 (by walk_at "sta") ?_ | refine LL5_2 (by walk_at "sta") ?_ | refine LL5_3 (by walk_at "sta") ?_ | refine LL5_4 (by walk_at "sta") ?_)
/-! ### trees: what the defs promise -/
/-- the parts of a node, with the signs they stand for and the word that grows -/
inductive VP (G : Gm) : Nat → Wo → List D → Wo → Prop
  | nil {n : Nat} : VP G n [] [] []
  | lt {n c : Nat} {p w : Wo} {ps : List D} : c ∉ hds G → VP G n p ps w → VP G n (c :: p) (.str [c] :: ps) (c :: w)
  | hd {n h : Nat} {q u p w : Wo} {qs ps : List D} : q ∈ rs G h → VP G n q qs u → VP G (n + 1) p ps w → VP G (n + 1) (h :: p) (.tup [.str [h], .tup qs] :: ps) (u ++ w)
def VT (G : Gm) (n : Nat) (d : D) (h : Nat) (w : Wo) : Prop := VP G n [h] [d] w ∧ h ∈ hds G
abbrev Fd := List (Sp3 × D)
def kdS (F : Fd) : List (D × D) := F.map fun e => (encS e.1, e.2)
def cnt (F : Fd) (i j : Nat) : Nat := (F.filter fun e => decide (e.1.2 = (i, j))).length
def fu (G : Gm) (F : Fd) (i j : Nat) : Nat := G.length * (j - i) + cnt F i j
structure FI (G : Gm) (word : Wo) (F : Fd) : Prop where
  nd : (F.map (·.1)).Nodup
  sp : ∀ e ∈ F, Span G word e.1
  vt : ∀ e ∈ F, VT G (fu G F e.1.2.1 e.1.2.2) e.2 e.1.1 ((word.drop e.1.2.1).take (e.1.2.2 - e.1.2.1))
def encR (r : Nat × List D) : D := .tup [.int (r.1 : Nat), .tup r.2]
def f_ends_of : D → D → D → (B → Prop) → Prop := fun g f t P => ∃ (G : Gm) (word : Wo) (F : Fd) (p : Wo) (i : Nat), g = gD G ∧ f = .dct true (kdS F) ∧ t = .tup [.str word, .str p, .int (i : Nat)] ∧ GW G ∧ FI G word F ∧ word.length ≤ 11 ∧ i ≤ word.length ∧ p.length ≤ 3 ∧ okS p ∧
  ∀ R : List (Nat × List D), (R.map (·.1)).Nodup → (∀ j, j ∈ R.map (·.1) ↔ EndS G word (· ∈ F.map (·.1)) p i j) → (∀ r ∈ R, VP G (fu G F i r.1) p r.2 ((word.drop i).take (r.1 - i))) → P (.own (.lst (R.map encR)))
def f_spans : D → D → (B → Prop) → Prop := fun g w P => ∃ (G : Gm) (word : Wo), g = gD G ∧ w = .str word ∧ GW G ∧ word.length ≤ 11 ∧ ∀ F : Fd, FI G word F → (∀ t, Span G word t → t ∈ F.map (·.1)) → P (.own (.dct true (kdS F)))

def N_ends_of : Nat := 12
-- 0:grammar 1:found 2:told 3:word 4:sprout 5:first 6:rows 7:sign 8:longer 9:place 10:parts 11:last
def w_ends_of : WS :=
  (sSeq (sAsg (wV 2) (gT 3 (gsC (gN 3) (gsC (gN 4) (gsC (gN 5) gsN)))))
  (sSeq (sSet 6 (wLst (aC (wTup (aC (wV 5) (aC (wTup aN) aN))) aN)))
  (sSeq (sFor (iS (wV 4)) (gN 7) (sSeq (sSet 8 (wDct0 false))
  (sSeq (sFor (iS (wV 6)) (gT 2 (gsC (gN 9) (gsC (gN 10) gsN))) (sIf (wTst (wOp wNin (oV 7) (oV 0))) (sIf (wTst (wOp wEq (oE (wSlice (oV 3) (pS (wV 9)) (pS (wOp wAdd (oV 9) (oE (wC (.int 1))))))) (oV 7))) (sExpr (wSetd 8 (wOp wAdd (oV 9) (oE (wC (.int 1)))) (wOp wAdd (oV 10) (oE (wTup (aC (wV 7) aN)))))) sNext) (sFor (iR2 (wV 9) (wOp wAdd (oE (wUn wLen (oV 3))) (oE (wC (.int 1))))) (gN 11) (sIf (wTst (wOp wIn (oE (wTup (aC (wV 7) (aC (wV 9) (aC (wV 11) aN))))) (oV 1))) (sExpr (wSetd 8 (wV 11) (wOp wAdd (oV 10) (oE (wTup (aC (wOp wIx (oV 1) (oE (wTup (aC (wV 7) (aC (wV 9) (aC (wV 11) aN)))))) aN)))))) sNext))))
  (sSet 6 (wLc (iS (wUn wSortKG (oV 8))) (gN 9) wYes (wTup (aC (wV 9) (aC (wOp wIx (oV 8) (oV 9)) aN))) [9])))))
  (sRet (wM 6)))))
def N_spans : Nat := 9
-- 0:grammar 1:word 2:found 3:changed 4:head 5:sprout 6:first 7:last 8:parts
def w_spans : WS :=
  (sSeq (sSet 2 (wDct0 true))
  (sSeq (sSet 3 (wC (.bl true)))
  (sSeq (sWhile (wTru (oV 3)) (sSeq (sSet 3 (wC (.bl false)))
  (sFor (iS (wUn wSortK (oV 0))) (gN 4) (sFor (iS (wOp wIx (oV 0) (oV 4))) (gN 5) (sFor (iR1 (wOp wAdd (oE (wUn wLen (oV 1))) (oE (wC (.int 1))))) (gN 6) (sFor (iS (wCallL 2 (fs3 f_ends_of) [(wV 0)] (aC (wTup (aC (wV 1) (aC (wV 5) (aC (wV 6) aN)))) aN))) (gT 2 (gsC (gN 7) (gsC (gN 8) gsN))) (sIf (wTst (wOp wNin (oE (wTup (aC (wV 4) (aC (wV 6) (aC (wV 7) aN))))) (oV 2))) (sSeq (sSub 2 (wTup (aC (wV 4) (aC (wV 6) (aC (wV 7) aN)))) (wTup (aC (wV 4) (aC (wV 8) aN))))
  (sSet 3 (wC (.bl true)))) sNext)))))))
  (sRet (wM 2)))))
instance (priority := low) {y : Option B} : KeepC y (keepB y) := ⟨rfl⟩
theorem VP.mono {G : Gm} {n : Nat} {p w : Wo} {ps : List D} (v : VP G n p ps w) : VP G (n + 1) p ps w := by
  induction v with
  | nil => exact .nil
  | lt h _ ih => exact .lt h ih
  | hd hq _ _ ih1 ih2 => exact .hd hq ih1 ih2
theorem VP.le {G : Gm} {n m : Nat} {p w : Wo} {ps : List D} (v : VP G n p ps w) (h : n ≤ m) : VP G m p ps w := by
  induction m with
  | zero => rw [show n = 0 by omega] at v; exact v
  | succ m ih =>
    rcases Nat.eq_or_lt_of_le h with e | e
    · rw [← e]; exact v
    · exact (ih (by omega)).mono
theorem VP.app {G : Gm} {n : Nat} {p q u w : Wo} {ps qs : List D} (v : VP G n p ps u) (v' : VP G n q qs w) : VP G n (p ++ q) (ps ++ qs) (u ++ w) := by
  induction v with
  | nil => exact v'
  | lt h _ ih => exact .lt h (ih v')
  | hd hq h1 _ _ ih2 => rw [List.cons_append, List.append_assoc]; exact .hd hq h1 (ih2 v')
theorem VP.gr {G : Gm} {n : Nat} {p w : Wo} {ps : List D} (v : VP G n p ps w) : Gr G p w := by
  induction v with
  | nil => exact .nil
  | lt h _ ih => exact .lt h ih
  | hd hq _ _ ih1 ih2 => exact .hd hq ih1 ih2
theorem VP.len {G : Gm} {n : Nat} {p w : Wo} {ps : List D} (v : VP G n p ps w) : ps.length = p.length := by
  induction v with
  | nil => rfl
  | lt h _ ih => rw [List.length_cons, List.length_cons, ih]
  | hd hq _ _ _ ih2 => rw [List.length_cons, List.length_cons, ih2]
theorem VT.node {G : Gm} {n h : Nat} {q u : Wo} {qs : List D} (hq : q ∈ rs G h) (v : VP G n q qs u) : VT G (n + 1) (.tup [.str [h], .tup qs]) h u := by
  refine ⟨?_, rs_head hq⟩
  have := VP.hd hq v (.nil (n := n + 1))
  rwa [List.append_nil] at this
theorem VT.inv {G : Gm} {n h : Nat} {d : D} {u : Wo} (v : VT G n d h u) : ∃ m q qs, n = m + 1 ∧ q ∈ rs G h ∧ d = .tup [.str [h], .tup qs] ∧ VP G m q qs u := by
  obtain ⟨v, hh⟩ := v
  generalize e : [h] = p at v
  generalize e2 : [d] = ps at v
  cases v with
  | nil => cases e
  | lt h1 _ => cases e; exact (h1 hh).elim
  | hd hq v1 v2 =>
    cases e; cases e2
    cases v2
    rw [List.append_nil]
    exact ⟨_, _, _, rfl, hq, rfl, v1⟩
/-! #### entries -/
theorem lookS {F : Fd} {t : Sp3} {d : D} (nd : (F.map (·.1)).Nodup) (h : (t, d) ∈ F) : lookD (kdS F) (encS t) = some d := by
  induction F with
  | nil => cases h
  | cons e F ih =>
    rw [List.map_cons] at nd
    obtain ⟨n1, n2⟩ := List.nodup_cons.mp nd
    unfold lookD kdS at *
    rw [List.map_cons, List.find?_cons]
    rcases List.mem_cons.mp h with z | z
    · rw [← z]
      rw [(eqSp t t).mpr rfl]; rfl
    · have : eqD (encS e.1) (encS t) = false := by
        cases e2 : eqD (encS e.1) (encS t) with
        | false => rfl
        | true =>
          have := (eqSp _ _).mp e2
          exact (n1 (List.mem_map.mpr ⟨(t, d), z, this.symm⟩)).elim
      rw [this]
      exact ih n2 z
theorem lookS_none {F : Fd} {t : Sp3} (h : t ∉ F.map (·.1)) : lookD (kdS F) (encS t) = none := by
  unfold lookD kdS
  rw [Option.map_eq_none_iff, List.find?_eq_none]
  intro p hp e
  obtain ⟨q, hq, rfl⟩ := List.mem_map.mp hp
  exact h (List.mem_map.mpr ⟨q, hq, (eqSp _ _).mp e⟩)
theorem inS {F : Fd} {t : Sp3} (nd : (F.map (·.1)).Nodup) : (lookD (kdS F) (encS t)).isSome = decide (t ∈ F.map (·.1)) := by
  by_cases h : t ∈ F.map (·.1)
  · rw [decide_eq_true h]
    obtain ⟨e, he, rfl⟩ := List.mem_map.mp h
    rw [lookS nd (d := e.2) he]; rfl
  · rw [decide_eq_false h, lookS_none h]; rfl
theorem putS {F : Fd} {t : Sp3} (h : t ∉ F.map (·.1)) (d : D) : putD (kdS F) (encS t) d = kdS (F ++ [(t, d)]) := by
  unfold putD
  rw [if_neg]
  · unfold kdS; rw [List.map_append]; rfl
  · rw [List.any_eq_true]
    rintro ⟨p, hp, e⟩
    unfold kdS at hp
    obtain ⟨q, hq, rfl⟩ := List.mem_map.mp hp
    exact h (List.mem_map.mpr ⟨q, hq, (eqSp _ _).mp e⟩)
theorem keyS (t : Sp3) : keyOk true (encS t) = true := rfl
theorem FI.cnt {G : Gm} {word : Wo} {F : Fd} (h : FI G word F) (i j : Nat) : PW.cnt F i j ≤ G.length := by
  unfold PW.cnt
  have nd : ((F.filter fun e => decide (e.1.2 = (i, j))).map fun e => e.1.1).Nodup := by
    have h1 := h.nd.sublist ((List.filter_sublist (p := fun e : Sp3 × D => decide (e.1.2 = (i, j)))).map (·.1))
    unfold List.Nodup at h1 ⊢
    rw [List.pairwise_map] at h1 ⊢
    refine List.Pairwise.imp_of_mem (fun {a b} ha hb hne e => hne ?_) h1
    have ea := of_decide_eq_true (List.mem_filter.mp ha).2
    have eb := of_decide_eq_true (List.mem_filter.mp hb).2
    exact Prod.ext e (by rw [ea, eb])
  have := nodup_len nd (m := hds G) fun x hx => by
    obtain ⟨e, he, rfl⟩ := List.mem_map.mp hx
    exact (h.sp e (List.mem_filter.mp he).1).1
  rw [List.length_map] at this
  unfold hds at this
  rwa [List.length_map] at this
theorem fu_mono {G : Gm} {F : Fd} (hc : ∀ i j, cnt F i j ≤ G.length) {i j i' j' : Nat} (h1 : i ≤ i') (h2 : i' ≤ j') (h3 : j' ≤ j) : fu G F i' j' ≤ fu G F i j := by
  unfold fu
  by_cases e : i' = i ∧ j' = j
  · rw [e.1, e.2]; exact Nat.le_refl _
  · have hl : j' - i' + 1 ≤ j - i := by omega
    have := Nat.mul_le_mul_left G.length hl
    rw [Nat.mul_succ] at this
    have := hc i' j'
    omega
theorem FI.fu_le {G : Gm} {word : Wo} {F : Fd} (h : FI G word F) {i j : Nat} : PW.fu G F i j ≤ G.length * (j - i + 1) := by
  unfold PW.fu
  have := h.cnt i j
  rw [Nat.mul_succ]
  omega
/-! #### longer -/
def kdI (L : List (Nat × List D)) : List (D × D) := L.map fun r => (D.int (r.1 : Nat), D.tup r.2)
theorem lookI_none {L : List (Nat × List D)} {k : Nat} : lookD (kdI L) (.int (k : Nat)) = none ↔ k ∉ L.map (·.1) := by
  unfold lookD kdI
  rw [Option.map_eq_none_iff, List.find?_eq_none]
  constructor
  · intro h hk
    obtain ⟨r, hr, rfl⟩ := List.mem_map.mp hk
    exact h _ (List.mem_map.mpr ⟨r, hr, rfl⟩) ((eqI _ _).mpr rfl)
  · intro h p hp e
    obtain ⟨r, hr, rfl⟩ := List.mem_map.mp hp
    have : ((r.1 : Int)) = (k : Int) := (eqI _ _).mp e
    exact h (List.mem_map.mpr ⟨r, hr, by omega⟩)
theorem lookI_some {L : List (Nat × List D)} {k : Nat} {d : D} (h : lookD (kdI L) (.int (k : Nat)) = some d) : ∃ ps, (k, ps) ∈ L ∧ d = .tup ps := by
  unfold lookD kdI at h
  rw [Option.map_eq_some_iff] at h
  obtain ⟨p, hp, rfl⟩ := h
  have h1 := List.mem_of_find?_eq_some hp
  have h2 := List.find?_some hp
  obtain ⟨r, hr, rfl⟩ := List.mem_map.mp h1
  have : ((r.1 : Int)) = (k : Int) := (eqI _ _).mp h2
  exact ⟨r.2, by rw [show k = r.1 by omega]; exact hr, rfl⟩
theorem putI {L : List (Nat × List D)} {k : Nat} {ps : List D} (h : k ∉ L.map (·.1)) : putD (kdI L) (.int (k : Nat)) (.tup ps) = kdI (L ++ [(k, ps)]) := by
  unfold putD
  rw [if_neg]
  · unfold kdI; rw [List.map_append]; rfl
  · rw [List.any_eq_true]
    rintro ⟨p, hp, e⟩
    unfold kdI at hp
    obtain ⟨r, hr, rfl⟩ := List.mem_map.mp hp
    have : ((r.1 : Int)) = (k : Int) := (eqI _ _).mp e
    exact h (List.mem_map.mpr ⟨r, hr, by omega⟩)
/-- what is told so far -/
structure LgI (G : Gm) (word : Wo) (F : Fd) (i : Nat) (q : Wo) (S : Nat → Prop) (L : List (Nat × List D)) : Prop where
  nd : (L.map (·.1)).Nodup
  mm : ∀ k, k ∈ L.map (·.1) ↔ S k
  vp : ∀ r ∈ L, VP G (fu G F i r.1) q r.2 ((word.drop i).take (r.1 - i))
theorem LgI.put {G : Gm} {word : Wo} {F : Fd} {i k : Nat} {q : Wo} {S S' : Nat → Prop} {L : List (Nat × List D)} {ps : List D} (h : LgI G word F i q S L) (hn : k ∉ L.map (·.1)) (hS : ∀ x, S' x ↔ S x ∨ x = k) (v : VP G (fu G F i k) q ps ((word.drop i).take (k - i))) : LgI G word F i q S' (L ++ [(k, ps)]) := by
  refine ⟨?_, fun x => ?_, fun r hr => ?_⟩
  · rw [List.map_append]
    refine List.nodup_append.mpr ⟨h.nd, by simp, fun a ha b hb => ?_⟩
    rw [List.map_singleton, List.mem_singleton] at hb
    rw [hb]; exact fun e => hn (by have e : a = k := e; rw [← e]; exact ha)
  · rw [List.map_append, List.mem_append, h.mm, hS]
    simp
  · rcases List.mem_append.mp hr with z | z
    · exact h.vp r z
    · rw [List.mem_singleton.mp z]; exact v
theorem LgI.keep {G : Gm} {word : Wo} {F : Fd} {i k : Nat} {q : Wo} {S S' : Nat → Prop} {L : List (Nat × List D)} (h : LgI G word F i q S L) (hn : k ∈ L.map (·.1)) (hS : ∀ x, S' x ↔ S x ∨ x = k) : LgI G word F i q S' L :=
  ⟨h.nd, fun x => by rw [h.mm, hS]; exact ⟨.inl, fun e => e.elim id fun e => by rw [e]; exact (h.mm k).mp hn⟩, h.vp⟩
theorem LgI.cong {G : Gm} {word : Wo} {F : Fd} {i : Nat} {q : Wo} {S S' : Nat → Prop} {L : List (Nat × List D)} (h : LgI G word F i q S L) (hS : ∀ x, S' x ↔ S x) : LgI G word F i q S' L :=
  ⟨h.nd, fun x => by rw [h.mm, hS], h.vp⟩
theorem LgI.len {G : Gm} {word : Wo} {F : Fd} {i : Nat} {q : Wo} {S : Nat → Prop} {L : List (Nat × List D)} (h : LgI G word F i q S L) (hS : ∀ x, S x → x ≤ word.length) : L.length ≤ word.length + 1 := by
  have := nodup_len h.nd (m := List.range (word.length + 1)) fun x hx => List.mem_range.mpr (by have := hS x ((h.mm x).mp hx); omega)
  rwa [List.length_map, List.length_range] at this
theorem law_ends_of : ∀ p a0 a1 a2 Pp, f_ends_of a0 a1 a2 Pp → LL N_ends_of w_ends_of 1 p a1 [a0] [a2] Pp := by
  rintro pp a0 a1 a2 Pp ⟨G, word, F, p, i, rfl, rfl, rfl, hG, hF, hwl, hi, hpl, hpo, k⟩
  unfold N_ends_of w_ends_of gD
  walk_at "start"
  refine ev_ ?_
  have hc := hF.cnt
  refine x_forK (fun m E => ∃ (R : List (Nat × List D)) (z7 z8 z9 z10 z11 : Option B), LgI G word F i (p.take m) (EndS G word (· ∈ F.map (·.1)) (p.take m) i) R ∧ E = [some (.dat (.dct false (kdD rowD (gmW G)))), some (.par pp (.dct true (kdS F))), some (.dat (.tup [.str word, .str p, .int (i : Nat)])), some (.dat (.str word)), some (.dat (.str p)), some (.dat (.int (i : Nat))), some (.own (.lst (R.map encR))), z7, z8, z9, z10, z11]) ⟨[(i, [])], none, none, none, none, none, ⟨by simp, fun j => ?_, fun r hr => ?_⟩, rfl⟩ ?_ ?_
  · rw [List.take_zero, EndS.nil_iff]
    simp
    exact fun _ => hi
  · rw [List.mem_singleton.mp hr, List.take_zero, Nat.sub_self, List.take_zero]
    exact .nil
  · rintro m d E hm ⟨R, z7, z8, z9, z10, z11, hR, rfl⟩
    obtain ⟨c, hcm, rfl⟩ := map_get hm
    have hcp := List.mem_of_getElem? hcm
    have hRe : ∀ r ∈ R, EndS G word (· ∈ F.map (·.1)) (p.take m) i r.1 := fun r hr => (hR.mm _).mp (List.mem_map.mpr ⟨r, hr, rfl⟩)
    have hRl := hR.len fun x hx => hx.le.2
    have htk : p.take (m + 1) = p.take m ++ [c] := take_snoc hcm
    have hS1 : ∀ L : List (Nat × List D), LgI G word F i (p.take (m + 1)) (fun y => ∃ r ∈ R, stpS G word (· ∈ F.map (·.1)) c r.1 y) L → LgI G word F i (p.take (m + 1)) (EndS G word (· ∈ F.map (·.1)) (p.take (m + 1)) i) L := fun L h => h.cong fun y => by
      rw [htk, EndS.snoc_iff]
      constructor
      · rintro ⟨j, a, s⟩
        obtain ⟨r, hr, e⟩ := List.mem_map.mp ((hR.mm j).mpr a)
        exact ⟨r, hr, by rw [show r.1 = j from e]; exact s⟩
      · rintro ⟨r, hr, s⟩
        exact ⟨r.1, hRe r hr, s⟩
    refine ev_ ?_
    refine x_forK (fun l E => ∃ (L : List (Nat × List D)) (z9 z10 z11 : Option B), LgI G word F i (p.take (m + 1)) (fun y => ∃ r ∈ R.take l, stpS G word (· ∈ F.map (·.1)) c r.1 y) L ∧ E = [some (.dat (.dct false (kdD rowD (gmW G)))), some (.par pp (.dct true (kdS F))), some (.dat (.tup [.str word, .str p, .int (i : Nat)])), some (.dat (.str word)), some (.dat (.str p)), some (.dat (.int (i : Nat))), some (.dat (.lst (R.map encR))), some (.dat (.str [c])), some (.own (.dct false (kdI L))), z9, z10, z11]) ⟨[], z9, z10, z11, ⟨by simp, fun k => by simp, fun r hr => by cases hr⟩, rfl⟩ ?_ ?_
    · rintro l d E hl ⟨L, z9, z10, z11, hL, rfl⟩
      obtain ⟨⟨x, ps⟩, hx, rfl⟩ := map_get hl
      have hxR := List.mem_of_getElem? hx
      have hxe := hRe _ hxR
      have hxv := hR.vp _ hxR
      have hxw := hxe.le
      have hLl : L.length ≤ word.length + 1 := hL.len fun x ⟨r, _, s⟩ => s.le.2
      have hsnoc : ∀ y, (∃ r ∈ R.take (l + 1), stpS G word (· ∈ F.map (·.1)) c r.1 y) ↔ (∃ r ∈ R.take l, stpS G word (· ∈ F.map (·.1)) c r.1 y) ∨ stpS G word (· ∈ F.map (·.1)) c x y := fun y => by
        rw [take_snoc hx]
        constructor
        · rintro ⟨r, hr, s⟩
          rcases List.mem_append.mp hr with z | z
          · exact .inl ⟨r, z, s⟩
          · rw [List.mem_singleton.mp z] at s; exact .inr s
        · rintro (⟨r, hr, s⟩ | s)
          · exact ⟨r, List.mem_append_left _ hr, s⟩
          · exact ⟨_, List.mem_append_right _ (List.mem_singleton.mpr rfl), s⟩
      have hvl : ps.length ≤ 3 := by
        have := hxv.len
        rw [List.length_take] at this
        show ps.length ≤ 3
        have e : ps.length = min m p.length := this
        omega
      rw [show encR (x, ps) = D.tup [D.int (x : Nat), D.tup ps] from rfl]
      refine ev_ ⟨rfl, ?_⟩
      rw [in_gD]
      refine ev_iteN (fun hcG => ?_) (fun hcG => ?_)
      · refine ⟨by omega, ?_⟩
        have hst : ∀ y, stpS G word (· ∈ F.map (·.1)) c x y ↔ word[x]? = some c ∧ y = x + 1 := fun y => by unfold stpS; rw [if_neg hcG]
        have ec : cut word (some (x : Int)) (some ((x : Int) + 1)) = (word.drop x).take 1 := by
          rw [cut_mid _ (by omega) (by omega)]
          congr 1
          omega
        rw [ec]
        refine ev_ite (fun g => ?_) (fun g => ?_)
        · refine ⟨by simp only [List.length_cons, List.length_nil]; omega, ?_⟩
          have hwc := seg_eq.mp g
          have hS : ∀ y, (∃ r ∈ R.take (l + 1), stpS G word (· ∈ F.map (·.1)) c r.1 y) ↔ (∃ r ∈ R.take l, stpS G word (· ∈ F.map (·.1)) c r.1 y) ∨ y = x + 1 := fun y => by
            rw [hsnoc, hst]
            constructor
            · rintro (a | a)
              · exact .inl a
              · exact .inr a.2
            · rintro (a | a)
              · exact .inl a
              · exact .inr ⟨hwc, a⟩
          rw [show ((x : Int) + 1) = ((x + 1 : Nat) : Int) by omega]
          refine x_sdK rfl (by unfold kdI; rw [List.length_map]; omega) (fun d hd => ?_) (fun hd => ?_)
          · obtain ⟨qs, hq, _⟩ := lookI_some hd
            exact ⟨L, _, _, _, hL.keep (List.mem_map.mpr ⟨_, hq, rfl⟩) hS, rfl⟩
          · have hn := lookI_none.mp hd
            rw [putI hn]
            refine ⟨_, _, _, _, hL.put hn hS ?_, rfl⟩
            have hx1 := (List.getElem?_eq_some_iff.mp hwc).1
            rw [htk, seg_app (j := x) (k := x + 1) (by omega) (by omega), show x + 1 - x = 1 by omega, seg_one hwc]
            exact (hxv.le (fu_mono hc (by omega) (by omega) (by omega))).app (.lt hcG .nil)
        · exact ⟨L, _, _, _, hL.cong fun y => by
            rw [hsnoc, hst]
            exact ⟨fun e => e.elim id fun e => (g (seg_eq.mpr e.1)).elim, .inl⟩, rfl⟩
      · refine ⟨by omega, ⟨by omega, by omega, by omega, by omega⟩, ?_⟩
        have hst : ∀ y, stpS G word (· ∈ F.map (·.1)) c x y ↔ (c, x, y) ∈ F.map (·.1) ∧ x ≤ y ∧ y ≤ word.length := fun y => by unfold stpS; rw [if_pos hcG]
        have er : rng (x : Int) ((word.length : Int) + 1 - (x : Int)).toNat = ((List.range (word.length + 1 - x)).map (x + ·)).map fun j => D.int (j : Nat) := by
          unfold rng
          rw [List.map_map, show ((word.length : Int) + 1 - (x : Int)).toNat = word.length + 1 - x by omega]
          apply List.map_congr_left
          intro y _
          show D.int _ = D.int _
          congr 1
        rw [er]
        refine x_forK (fun q E => ∃ (L : List (Nat × List D)) (z11 : Option B), LgI G word F i (p.take (m + 1)) (fun y => (∃ r ∈ R.take l, stpS G word (· ∈ F.map (·.1)) c r.1 y) ∨ (y < x + q ∧ stpS G word (· ∈ F.map (·.1)) c x y)) L ∧ E = [some (.dat (.dct false (kdD rowD (gmW G)))), some (.par pp (.dct true (kdS F))), some (.dat (.tup [.str word, .str p, .int (i : Nat)])), some (.dat (.str word)), some (.dat (.str p)), some (.dat (.int (i : Nat))), some (.dat (.lst (R.map encR))), some (.dat (.str [c])), some (.own (.dct false (kdI L))), some (.dat (.int (x : Nat))), some (.dat (.tup ps)), z11]) ⟨L, z11, hL.cong fun y => ⟨fun e => e.elim id fun e => by have := e.2.le; omega, .inl⟩, rfl⟩ ?_ ?_
        · clear hL hLl L
          rintro q d E hq ⟨L, z11, hL, rfl⟩
          obtain ⟨y, hy, rfl⟩ := map_get hq
          rw [List.getElem?_map] at hy
          obtain ⟨q', hq', rfl⟩ := Option.map_eq_some_iff.mp hy
          have hq2 := List.getElem?_eq_some_iff.mp hq'
          obtain ⟨hql, e⟩ := hq2
          rw [List.length_range] at hql
          rw [List.getElem_range] at e
          subst e
          have hLl : L.length ≤ word.length + 1 := hL.len fun x e => by
            rcases e with ⟨r, _, s⟩ | e
            · exact s.le.2
            · exact e.2.le.2
          refine ev_ ⟨keyS (c, x, x + q), ?_⟩
          rw [show D.tup [D.str [c], D.int (x : Nat), D.int ((x + q : Nat) : Int)] = encS (c, x, x + q) from rfl, inS hF.nd]
          have hmem : ∀ y, y < x + (q + 1) ∧ stpS G word (· ∈ F.map (·.1)) c x y ↔ (y < x + q ∧ stpS G word (· ∈ F.map (·.1)) c x y) ∨ (y = x + q ∧ (c, x, x + q) ∈ F.map (·.1)) := fun y => by
            constructor
            · rintro ⟨h1, h2⟩
              rcases Nat.lt_or_ge y (x + q) with e | e
              · exact .inl ⟨e, h2⟩
              · have : y = x + q := by omega
                subst this
                exact .inr ⟨rfl, ((hst _).mp h2).1⟩
            · rintro (⟨h1, h2⟩ | ⟨rfl, h2⟩)
              · exact ⟨by omega, h2⟩
              · exact ⟨by omega, (hst _).mpr ⟨h2, by omega, by omega⟩⟩
          refine ev_ite (fun g => ?_) (fun g => ?_)
          · obtain ⟨e, he, e1⟩ := List.mem_map.mp g
            have hlk := lookS hF.nd (t := (c, x, x + q)) (d := e.2) (by rw [← e1]; exact he)
            have hvt : VT G (fu G F x (x + q)) e.2 c ((word.drop x).take (x + q - x)) := by
              have := hF.vt e he
              rw [e1] at this
              exact this
            have hS : ∀ y, ((∃ r ∈ R.take l, stpS G word (· ∈ F.map (·.1)) c r.1 y) ∨ (y < x + (q + 1) ∧ stpS G word (· ∈ F.map (·.1)) c x y)) ↔ ((∃ r ∈ R.take l, stpS G word (· ∈ F.map (·.1)) c r.1 y) ∨ (y < x + q ∧ stpS G word (· ∈ F.map (·.1)) c x y)) ∨ y = x + q := fun y => by
              rw [hmem]
              constructor
              · rintro (a | a | a)
                · exact .inl (.inl a)
                · exact .inl (.inr a)
                · exact .inr a.1
              · rintro ((a | a) | a)
                · exact .inl a
                · exact .inr (.inl a)
                · exact .inr (.inr ⟨a, g⟩)
            refine ev_ ⟨keyS (c, x, x + q), _, hlk, by simp only [List.length_cons, List.length_nil]; omega, ?_⟩
            refine x_sdK rfl (by unfold kdI; rw [List.length_map]; omega) (fun d hd => ?_) (fun hd => ?_)
            · obtain ⟨qs, hq, _⟩ := lookI_some hd
              exact ⟨L, _, hL.keep (List.mem_map.mpr ⟨_, hq, rfl⟩) hS, rfl⟩
            · have hn := lookI_none.mp hd
              rw [putI hn]
              refine ⟨_, _, hL.put hn hS ?_, rfl⟩
              rw [htk, seg_app (j := x) (k := x + q) (by omega) (by omega)]
              refine (hxv.le (fu_mono hc (by omega) (by omega) (by omega))).app ?_
              exact hvt.1.le (fu_mono hc (by omega) (by omega) (by omega))
          · exact ⟨L, _, hL.cong fun y => by
              rw [hmem]
              constructor
              · rintro (a | a | a)
                · exact .inl a
                · exact .inr a
                · exact (g a.2).elim
              · rintro (a | a)
                · exact .inl a
                · exact .inr (.inl a), rfl⟩
        · rintro E ⟨L, z11, hL, rfl⟩
          rw [List.length_map, List.length_map, List.length_range] at hL
          exact ⟨L, _, _, _, hL.cong fun y => by
            rw [hsnoc]
            constructor
            · rintro (a | a)
              · exact .inl a
              · exact .inr ⟨by have := a.le; omega, a⟩
            · rintro (a | a)
              · exact .inl a
              · exact .inr a.2, rfl⟩
    · rintro E ⟨L, z9, z10, z11, hL, rfl⟩
      rw [List.length_map, List.take_length] at hL
      have hL := hS1 L hL
      have hLl := hL.len fun x hx => hx.le.2
      have hke : (kdI L).map (·.1) = (L.map fun r => ((r.1 : Nat) : Int)).map D.int := by
        unfold kdI; rw [List.map_map, List.map_map]; rfl
      refine ev_ ⟨by rw [hke]; exact sortOk_ints _, ?_⟩
      have pK := List.mergeSort_perm (L.map (·.1)) (fun a b => decide (a ≤ b))
      have eK : ((kdI L).map (·.1)).mergeSort leD = ((L.map (·.1)).mergeSort (fun a b => decide (a ≤ b))).map (fun k => D.int (k : Nat)) := by
        rw [List.map_mergeSort (s := leD)]
        · unfold kdI; rw [List.map_map, List.map_map]; rfl
        · intro a _ b _
          rw [leD_int]
          by_cases h : a ≤ b
          · rw [decide_eq_true h, decide_eq_true (by omega)]
          · rw [decide_eq_false h, decide_eq_false (by omega)]
      generalize (L.map (·.1)).mergeSort (fun a b => decide (a ≤ b)) = Ks at pK eK
      rw [eK]
      have hlk : ∀ k ∈ Ks, ∃ ps, (k, ps) ∈ L ∧ lookD (kdI L) (.int (k : Nat)) = some (.tup ps) := fun k hk => by
        have hm := (pK.mem_iff).mp hk
        cases e : lookD (kdI L) (.int (k : Nat)) with
        | none => exact (lookI_none.mp e hm).elim
        | some d => obtain ⟨ps, h1, rfl⟩ := lookI_some e; exact ⟨ps, h1, rfl⟩
      refine x_lcM' (fun d => .tup [d, (lookD (kdI L) d).getD .non]) (fun a d ha => ?_) ?_
      · obtain ⟨y, hy, rfl⟩ := map_get ha
        obtain ⟨ps, h1, h2⟩ := hlk y (List.mem_of_getElem? hy)
        have hKl := pK.length_eq
        rw [List.length_map] at hKl
        refine ev_ ⟨rfl, _, h2, yK_c ha (by rw [List.length_map]; omega) rfl (by rw [h2]; rfl)⟩
      · refine ev_ ⟨Ks.map fun k => (k, match lookD (kdI L) (.int (k : Nat)) with | some (.tup ps) => ps | _ => []), some (.dat (.str [c])), some (.own (.dct false (kdI L))), keepB z9, z10, z11, ⟨?_, ?_, ?_⟩, ?_⟩
        · rw [List.map_map]
          have : Ks.map ((fun r : Nat × List D => r.1) ∘ fun k => (k, match lookD (kdI L) (.int (k : Nat)) with | some (.tup ps) => ps | _ => [])) = Ks := List.map_id _
          rw [this]
          exact (pK.nodup_iff).mpr hL.nd
        · intro k
          rw [List.map_map, ← hL.mm k, ← pK.mem_iff]
          have : Ks.map ((fun r : Nat × List D => r.1) ∘ fun k => (k, match lookD (kdI L) (.int (k : Nat)) with | some (.tup ps) => ps | _ => [])) = Ks := List.map_id _
          rw [this]
        · intro r hr
          obtain ⟨k, hk, rfl⟩ := List.mem_map.mp hr
          obtain ⟨ps, h1, h2⟩ := hlk k hk
          have := hL.vp _ h1
          simp only [h2]
          exact this
        · rw [List.map_map, List.map_map]
          rw [List.map_congr_left (f := (fun d => D.tup [d, (lookD (kdI L) d).getD .non]) ∘ fun k : Nat => D.int (k : Nat)) (g := encR ∘ fun k => (k, match lookD (kdI L) (.int (k : Nat)) with | some (.tup ps) => ps | _ => [])) fun k hk => by
            obtain ⟨ps, h1, h2⟩ := hlk k hk
            show D.tup [D.int (k : Nat), (lookD (kdI L) (.int (k : Nat))).getD .non] = D.tup [D.int (k : Nat), D.tup (match lookD (kdI L) (.int (k : Nat)) with | some (.tup ps) => ps | _ => [])]
            rw [h2]; rfl]
  · rintro E ⟨R, z7, z8, z9, z10, z11, hR, rfl⟩
    rw [List.length_map, List.take_length] at hR
    exact ev_ (k R hR.nd hR.mm hR.vp)
theorem cnt_mono (F N : Fd) (i j : Nat) : cnt F i j ≤ cnt (F ++ N) i j := by
  unfold cnt
  rw [List.filter_append, List.length_append]; omega
theorem cnt_one (F : Fd) (h i j : Nat) (d : D) : cnt (F ++ [((h, i, j), d)]) i j = cnt F i j + 1 := by
  unfold cnt
  rw [List.filter_append, List.length_append]; simp
theorem FI.put {G : Gm} {word : Wo} {F : Fd} (h : FI G word F) {x i j n : Nat} {q : Wo} {qs : List D} (hn : (x, i, j) ∉ F.map (·.1)) (hq : q ∈ rs G x) (h1 : i ≤ j) (h2 : j ≤ word.length) (hc : n ≤ PW.fu G F i j) (v : VP G n q qs ((word.drop i).take (j - i))) : FI G word (F ++ [((x, i, j), .tup [.str [x], .tup qs])]) := by
  have v1 := VT.node hq v
  refine ⟨?_, fun e he => ?_, fun e he => ?_⟩
  · rw [List.map_append]
    refine List.nodup_append.mpr ⟨h.nd, by simp, fun a ha b hb => ?_⟩
    rw [List.map_singleton, List.mem_singleton] at hb
    rw [hb]; exact fun e => hn (by have e : a = (x, i, j) := e; rw [← e]; exact ha)
  · rcases List.mem_append.mp he with z | z
    · exact h.sp e z
    · rw [List.mem_singleton.mp z]
      exact ⟨rs_head hq, h1, h2, v1.1.gr⟩
  · rcases List.mem_append.mp he with z | z
    · have := h.vt e z
      refine ⟨this.1.le ?_, this.2⟩
      unfold PW.fu
      have := cnt_mono F [((x, i, j), .tup [.str [x], .tup qs])] e.1.2.1 e.1.2.2
      omega
    · rw [List.mem_singleton.mp z]
      refine ⟨v1.1.le ?_, v1.2⟩
      show n + 1 ≤ PW.fu G _ i j
      unfold PW.fu at *
      rw [cnt_one]
      omega
theorem law_spans : ∀ a0 a1 Pp, f_spans a0 a1 Pp → LF N_spans w_spans [a0, a1] Pp := by
  rintro a0 a1 Pp ⟨G, word, rfl, rfl, hG, hwl, k⟩
  unfold N_spans w_spans gD
  walk_at "start"
  refine ev_ ?_
  have hbig : ∀ {F : Fd}, FI G word F → F.length ≤ G.length * tri word.length := fun {F} h => by
    have := spans_len h.nd fun t ht => by obtain ⟨e, he, rfl⟩ := List.mem_map.mp ht; exact h.sp e he
    rwa [List.length_map] at this
  have hb2 : G.length * tri word.length ≤ 4 * 78 := Nat.mul_le_mul hG.few (Nat.le_trans (tri_mono hwl (by decide)) (by decide))
  refine x_while (fun m E => ∃ (F : Fd) (b : Bool) (z4 z5 z6 z7 z8 : Option B), FI G word F ∧ m = 2 * (G.length * tri word.length - F.length) + (if b then 1 else 0) ∧ (b = false → ∀ h ∈ hds G, ∀ p ∈ rs G h, ∀ f j, EndS G word (· ∈ F.map (·.1)) p f j → (h, f, j) ∈ F.map (·.1)) ∧ E = [some (.dat (.dct false (kdD rowD (gmW G)))), some (.dat (.str word)), some (.own (.dct true (kdS F))), some (.dat (.bl b)), z4, z5, z6, z7, z8]) _ ⟨[], true, none, none, none, none, none, ⟨List.nodup_nil, (fun e h => by cases h), fun e h => by cases h⟩, rfl, (fun h => by cases h), rfl⟩ ?_
  rintro m E ⟨F0, b, z4, z5, z6, z7, z8, hF0, rfl, cF, rfl⟩
  cases b with
  | false =>
    have cF := cF rfl
    refine ev_ ?_
    exact ev_ (k F0 hF0 fun t ht => span_all cF ht)
  | true =>
    refine ev_ ⟨(hds G).map (fun c => [c]), keys_gD' G, ?_⟩
    rw [sort_gD]
    clear cF
    refine x_forK (fun i E => ∃ (F : Fd) (b : Bool) (z4 z5 z6 z7 z8 : Option B), FI G word F ∧ F0.length ≤ F.length ∧ (b = true → F0.length < F.length) ∧ (b = false → ∀ h ∈ (sh G).take i, ∀ p ∈ rs G h, ∀ f j, EndS G word (· ∈ F.map (·.1)) p f j → (h, f, j) ∈ F.map (·.1)) ∧ E = [some (.dat (.dct false (kdD rowD (gmW G)))), some (.dat (.str word)), some (.own (.dct true (kdS F))), some (.dat (.bl b)), z4, z5, z6, z7, z8]) ⟨F0, false, z4, z5, z6, z7, z8, hF0, Nat.le_refl _, (fun h => by cases h), by simp, rfl⟩ ?_ ?_
    · clear z4 z5 z6 z7 z8
      rintro i d E hi ⟨F, b, z4, z5, z6, z7, z8, hF, lF, gF, cF, rfl⟩
      obtain ⟨h, hh, rfl⟩ := sgs_get hi
      have hhG := GW.sh_mem.mp (List.mem_of_getElem? hh)
      refine ev_ ⟨rfl, _, look_at hhG, ?_⟩
      unfold rowD
      refine ev_ ?_
      refine x_forK (fun j E => ∃ (F : Fd) (b : Bool) (z5 z6 z7 z8 : Option B), FI G word F ∧ F0.length ≤ F.length ∧ (b = true → F0.length < F.length) ∧ (b = false → ∀ h ∈ (sh G).take i, ∀ p ∈ rs G h, ∀ f j, EndS G word (· ∈ F.map (·.1)) p f j → (h, f, j) ∈ F.map (·.1)) ∧ (b = false → ∀ p ∈ (rs G h).take j, ∀ f j, EndS G word (· ∈ F.map (·.1)) p f j → (h, f, j) ∈ F.map (·.1)) ∧ E = [some (.dat (.dct false (kdD rowD (gmW G)))), some (.dat (.str word)), some (.own (.dct true (kdS F))), some (.dat (.bl b)), some (.dat (.str [h])), z5, z6, z7, z8]) ⟨F, b, z5, z6, z7, z8, hF, lF, gF, cF, by simp, rfl⟩ ?_ ?_
      · clear hF lF gF cF F b z4 z5 z6 z7 z8
        rintro j d E hj ⟨F, b, z5, z6, z7, z8, hF, lF, gF, cF, dF, rfl⟩
        obtain ⟨p, hp, rfl⟩ := map_get hj
        have hpm := List.mem_of_getElem? hp
        have hpl := (hG.rul h p hpm).1
        have hpo := (hG.rul h p hpm).2
        refine ev_ ⟨by omega, ⟨by omega, by omega⟩, ?_⟩
        refine x_forK (fun f E => ∃ (F : Fd) (b : Bool) (z6 z7 z8 : Option B), FI G word F ∧ F0.length ≤ F.length ∧ (b = true → F0.length < F.length) ∧ (b = false → ∀ h ∈ (sh G).take i, ∀ p ∈ rs G h, ∀ f j, EndS G word (· ∈ F.map (·.1)) p f j → (h, f, j) ∈ F.map (·.1)) ∧ (b = false → ∀ p ∈ (rs G h).take j, ∀ f j, EndS G word (· ∈ F.map (·.1)) p f j → (h, f, j) ∈ F.map (·.1)) ∧ (b = false → ∀ f' < f, ∀ j, EndS G word (· ∈ F.map (·.1)) p f' j → (h, f', j) ∈ F.map (·.1)) ∧ E = [some (.dat (.dct false (kdD rowD (gmW G)))), some (.dat (.str word)), some (.own (.dct true (kdS F))), some (.dat (.bl b)), some (.dat (.str [h])), some (.dat (.str p)), z6, z7, z8]) ⟨F, b, z6, z7, z8, hF, lF, gF, cF, dF, (fun _ f' h => by omega), rfl⟩ ?_ ?_
        · clear hF lF gF cF dF F b z5 z6 z7 z8
          rintro f d E hf ⟨Fc, b, z6, z7, z8, hFc, lF, gF, cF, dF, eF, rfl⟩
          obtain ⟨hfl, rfl⟩ := rng_get hf
          have hfl : f ≤ word.length := by omega
          rw [show (0 + (f : Int)) = ((f : Nat) : Int) by omega]
          refine ev_ ⟨G, word, Fc, p, f, rfl, rfl, rfl, hG, hFc, hwl, hfl, hpl, hpo, fun R nR mR vR => ?_⟩
          refine ev_ ?_
          refine x_forK (fun l E => ∃ (F : Fd) (b' : Bool) (z7 z8 : Option B), FI G word F ∧ (∀ i j, cnt Fc i j ≤ cnt F i j) ∧ F0.length ≤ F.length ∧ (b' = true → F0.length < F.length) ∧ (b' = false → F = Fc ∧ b = false) ∧ (∀ r ∈ R.take l, (h, f, r.1) ∈ F.map (·.1)) ∧ E = [some (.dat (.dct false (kdD rowD (gmW G)))), some (.dat (.str word)), some (.own (.dct true (kdS F))), some (.dat (.bl b')), some (.dat (.str [h])), some (.dat (.str p)), some (.dat (.int (f : Nat))), z7, z8]) ⟨Fc, b, z7, z8, hFc, (fun _ _ => Nat.le_refl _), lF, gF, (fun e => ⟨rfl, e⟩), by simp, rfl⟩ ?_ ?_
          · clear z7 z8
            rintro l d E hl ⟨F, b', z7, z8, hF, nF, lF', gF', sF, kF, rfl⟩
            obtain ⟨⟨x, ps⟩, hx, rfl⟩ := map_get hl
            have hxR := List.mem_of_getElem? hx
            have hxe := (mR x).mp (List.mem_map.mpr ⟨_, hxR, rfl⟩)
            have hxv := vR _ hxR
            have hxw := hxe.le
            have hFl := hbig hF
            rw [show encR (x, ps) = D.tup [D.int (x : Nat), D.tup ps] from rfl]
            refine ev_ ⟨keyS (h, f, x), ?_⟩
            rw [show D.tup [D.str [h], D.int (f : Nat), D.int (x : Nat)] = encS (h, f, x) from rfl, inS hF.nd]
            refine ev_iteN (fun g => ?_) (fun g => ?_)
            · refine ev_ ⟨keyS (h, f, x), by unfold kdS; rw [List.length_map]; omega, ?_⟩
              rw [show D.tup [D.str [h], D.int (f : Nat), D.int (x : Nat)] = encS (h, f, x) from rfl, putS g]
              have hfu : fu G Fc f x ≤ fu G F f x := by unfold fu; have := nF f x; omega
              refine ev_ ⟨_, true, _, _, hF.put g hpm hxw.1 hxw.2 hfu hxv, fun i j => Nat.le_trans (nF i j) (cnt_mono _ _ _ _), by rw [List.length_append]; omega, fun _ => by rw [List.length_append]; show _ < F.length + 1; omega, (fun h => by cases h), fun r hr => ?_, rfl⟩
              rw [take_snoc hx] at hr
              rw [List.map_append]
              rcases List.mem_append.mp hr with z | z
              · exact List.mem_append_left _ (kF r z)
              · rw [List.mem_singleton.mp z]; exact List.mem_append_right _ (List.mem_singleton.mpr rfl)
            · refine ⟨F, b', _, _, hF, nF, lF', gF', sF, fun r hr => ?_, rfl⟩
              rw [take_snoc hx] at hr
              rcases List.mem_append.mp hr with z | z
              · exact kF r z
              · rw [List.mem_singleton.mp z]; exact g
          · rintro E ⟨F, b', z7, z8, hF, nF, lF', gF', sF, kF, rfl⟩
            rw [List.length_map, List.take_length] at kF
            refine ⟨F, b', _, _, _, hF, lF', gF', (fun e => ?_), (fun e => ?_), (fun e => ?_), rfl⟩
            · obtain ⟨rfl, e2⟩ := sF e; exact cF e2
            · obtain ⟨rfl, e2⟩ := sF e; exact dF e2
            · obtain ⟨rfl, e2⟩ := sF e
              intro f' hf' y hy
              rcases Nat.lt_or_ge f' f with z | z
              · exact eF e2 f' z y hy
              · have : f' = f := by omega
                subst this
                obtain ⟨r, hr, rfl⟩ := List.mem_map.mp ((mR y).mpr hy)
                exact kF r hr
        · rintro E ⟨F, b, z6, z7, z8, hF, lF, gF, cF, dF, eF, rfl⟩
          refine ⟨F, b, _, _, _, _, hF, lF, gF, cF, (fun e p' hp' f j hy => ?_), rfl⟩
          rw [take_snoc hp] at hp'
          rcases List.mem_append.mp hp' with z | z
          · exact dF e p' z f j hy
          · rw [List.mem_singleton.mp z] at hy
            refine eF e f ?_ j hy
            have := hy.le
            rw [rng_len]
            omega
      · rintro E ⟨F, b, z5, z6, z7, z8, hF, lF, gF, cF, dF, rfl⟩
        rw [List.length_map, List.take_length] at dF
        refine ⟨F, b, _, _, _, _, _, hF, lF, gF, (fun e h' hh' p hp f j hy => ?_), rfl⟩
        rw [take_snoc hh] at hh'
        rcases List.mem_append.mp hh' with z | z
        · exact cF e h' z p hp f j hy
        · rw [List.mem_singleton.mp z] at hp ⊢
          exact dF e p hp f j hy
    · clear z4 z5 z6 z7 z8
      rintro E ⟨F, b, z4, z5, z6, z7, z8, hF, lF, gF, cF, rfl⟩
      have hb := hbig hF
      refine ⟨_, ?_, F, b, z4, z5, z6, z7, z8, hF, rfl, (fun e h hh => ?_), rfl⟩
      · cases b with
        | false => show _ + 0 < _ + 1; omega
        | true => have := gF rfl; show _ + 1 < _ + 1; omega
      · refine cF e h ?_
        rw [show (sgs (sh G)).length = (sh G).length by unfold sgs; rw [List.length_map], List.take_length]
        exact GW.sh_mem.mpr hh
theorem pw_gD {G : Gm} (h : GW G) : (kdD rowD (gmW G)).Pairwise fun p q => eqD p.1 q.1 = false := by
  unfold kdD gmW
  rw [List.map_map]
  have := h.nd
  unfold hds List.Nodup at this
  rw [List.pairwise_map] at this
  refine List.Pairwise.map _ (fun a b hne => ?_) this
  show eqD (.str [a.1]) (.str [b.1]) = false
  rw [eqD_str]
  exact decide_eq_false fun e => hne (by simpa using e)
theorem mem_gD {G : Gm} (h : GW G) {p : D × D} (hp : p ∈ kdD rowD (gmW G)) : ∃ c, c ∈ hds G ∧ p.1 = .str [c] ∧ p.2 = rowD (rs G c) := by
  unfold kdD gmW at hp
  rw [List.map_map] at hp
  obtain ⟨q, hq, rfl⟩ := List.mem_map.mp hp
  refine ⟨q.1, List.mem_map.mpr ⟨q, hq, rfl⟩, rfl, ?_⟩
  show rowD q.2 = _
  have hm := rs_in (List.mem_map.mpr ⟨q, hq, rfl⟩ : q.1 ∈ hds G)
  have : q.2 = rs G q.1 := by
    obtain ⟨i, hi, ei⟩ := List.getElem_of_mem hq
    obtain ⟨j, hj, ej⟩ := List.getElem_of_mem hm
    have nd := h.nd
    unfold hds List.Nodup at nd
    rw [List.pairwise_map] at nd
    rcases Nat.lt_trichotomy i j with z | z | z
    · have := List.pairwise_iff_getElem.mp nd i j hi hj z
      rw [ei, ej] at this
      exact (this rfl).elim
    · subst z
      rw [ei] at ej
      rw [ej]
    · have := List.pairwise_iff_getElem.mp nd j i hj hi z
      rw [ei, ej] at this
      exact (this rfl).elim
  rw [this]
theorem cpy_strs (n : Nat) {l : List Wo} (h : l.length < 16777216) : Cpy (n + 2) (.lst (l.map D.str)) := ⟨by rw [List.length_map]; exact h, fun d hd => by
  obtain ⟨s, _, rfl⟩ := List.mem_map.mp hd
  trivial⟩
theorem cpy_gD {G : Gm} (h : GW G) (n : Nat) : Cpy (n + 3) (gD G) := by
  refine ⟨rfl, by rw [len_gD]; have := h.few; omega, fun p hp => ?_, pw_gD h⟩
  obtain ⟨c, hc, e1, e2⟩ := mem_gD h hp
  rw [e1, e2]
  exact ⟨rfl, cpy_strs n (by have := h.num c; omega)⟩
theorem spP_none {K : PySem.W.Frag} {fs : PFS} (h : ∀ d ds Pp, fs d ds Pp → False) : ∀ vs H Q E, spP K fs vs H Q E → False := fun vs H Q E ⟨G, p, d, ws, ds, P, a, b, c, e, f, g, i⟩ => h _ _ _ g

end PW

set_option Elab.async false
set_option linter.all false
set_option autoImplicit false
set_option maxRecDepth 100000
set_option maxHeartbeats 4000000
namespace PW.K68
open PySem PySem.Spec PyProof.Rows L2 PW
def sgn (d : D) : Wo := match d with
  | .str s => s
  | .tup (.str s :: _) => s
  | _ => []
def isT (G : Gm) : Nat → D → Bool
  | 0, _ => false
  | n + 1, d => match d with
    | .tup [.str [h], .tup ps] => decide (h ∈ hds G) && ps.all (fun p => match p with | .str [c] => decide (c ∈ lowL) | _ => isT G n p) && decide (ps.flatMap sgn ∈ rs G h)
    | _ => false
/-- one part is right -/
def prt (G : Gm) (n : Nat) (p : D) : Bool := match p with
  | .str [c] => decide (c ∈ lowL)
  | _ => isT G n p
def wdD : Nat → D → Wo
  | 0, _ => []
  | n + 1, d => match d with
    | .tup [_, .tup ps] => ps.flatMap fun p => match p with | .str s => s | _ => wdD n p
    | _ => []
def wdP (n : Nat) (p : D) : Wo := match p with
  | .str s => s
  | _ => wdD n p
inductive TV : Nat → D → Prop
  | non {n : Nat} : TV (n + 1) .non
  | str {n c : Nat} : c < 1114112 → TV (n + 1) (.str [c])
  | bad1 {n h : Nat} : TV (n + 1) (.tup [.str [h]])
  | bad3 {n h : Nat} {a b : List D} : TV (n + 1) (.tup [.str [h], .tup a, .tup b])
  | int {n : Nat} {a : D} : TV (n + 1) (.tup [.int 1, a])
  | lst {n h : Nat} {a : List D} : TV (n + 1) (.tup [.str [h], .lst a])
  | node {n h : Nat} {ps : List D} : ps.length ≤ 4 → (∀ p ∈ ps, TV n p) → TV (n + 1) (.tup [.str [h], .tup ps])
def f_is_tree (n : Nat) : D → D → (B → Prop) → Prop := fun g v P => ∃ G, g = gD G ∧ GW G ∧ TV n v ∧ P (.dat (.bl (isT G n v)))
def f__law_is_tree (n : Nat) : D → D → (B → Prop) → Prop := fun g v P => ∃ G, g = gD G ∧ GW G ∧ TV n v ∧ P (.dat (.bl (isT G n v)))
def f_word_of (n : Nat) : D → (B → Prop) → Prop := fun v P => ∃ G, TV n v ∧ isT G n v = true ∧ (wdD n v).length ≤ 1000 ∧ P (.dat (.str (wdD n v)))
def f__law_word_of (n : Nat) : D → (B → Prop) → Prop := fun v P => ∃ G, TV n v ∧ isT G n v = true ∧ (wdD n v).length ≤ 1000 ∧ P (.dat (.str (wdD n v)))
def f__law_bent (n : Nat) : D → D → (B → D → Prop) → Prop := fun p v P => isPool p ∧ ∃ m G h w, n = m + 1 ∧ m ≤ 31 ∧ GL G ∧ VT G m v h w ∧ ∀ d p', TV n d → (∀ H, isT H n d = true → (wdD n d).length ≤ w.length + 1) → isPool p' → P (.dat d) p'
theorem TV.pos {d : D} : ¬ TV 0 d := fun h => by cases h
theorem rec0_is_tree : ∀ ds Pp, fs2 (f_is_tree 0) ds Pp → False := fun ds Pp ⟨_, _, _, _, _, _, h, _⟩ => TV.pos h
theorem rec0__law_is_tree : ∀ ds Pp, fs2 (f__law_is_tree 0) ds Pp → False := fun ds Pp ⟨_, _, _, _, _, _, h, _⟩ => TV.pos h
theorem rec0_word_of : ∀ ds Pp, fs1 (f_word_of 0) ds Pp → False := fun ds Pp ⟨_, _, _, h, _⟩ => TV.pos h
theorem rec0__law_word_of : ∀ ds Pp, fs1 (f__law_word_of 0) ds Pp → False := fun ds Pp ⟨_, _, _, h, _⟩ => TV.pos h
theorem rec0__law_bent : ∀ d ds Pp, ps1 (f__law_bent 0) d ds Pp → False := fun d ds Pp ⟨_, _, _, _, _, _, _, h, _⟩ => by cases h
def f_tree : D → D → D → (B → Prop) → Prop := fun g h w P => ∃ (G : Gm) (c : Nat) (word : Wo), g = gD G ∧ h = .str [c] ∧ w = .str word ∧ GW G ∧ word.length ≤ 11 ∧ c ∈ hds G ∧ (¬ Gr G [c] word → P (.dat .non)) ∧ (∀ d, VT G (G.length * (word.length + 1)) d c word → P (.dat d))
open Classical in
def f_grows : D → D → D → (B → Prop) → Prop := fun g h w P => ∃ (G : Gm) (c : Nat) (word : Wo), g = gD G ∧ h = .str [c] ∧ w = .str word ∧ GW G ∧ word.length ≤ 11 ∧ c ∈ hds G ∧ P (.dat (.bl (decide (Gr G [c] word))))
def jdg (G : Gm) (c : Nat) (w : Wo) (v : D) : Bool := isT G 30 v && decide (sgn v = [c]) && decide (wdD 30 v = w)
def f_judge_tree : D → D → D → D → (B → Prop) → Prop := fun g h w v P => ∃ (G : Gm) (c : Nat) (word : Wo), g = gD G ∧ h = .str [c] ∧ w = .str word ∧ GW G ∧ TV 30 v ∧ (isT G 30 v = true → (wdD 30 v).length ≤ 1000) ∧ P (.dat (.bl (jdg G c word v)))
def f_law := fLaw 63
end PW.K68

set_option Elab.async false
set_option linter.all false
set_option autoImplicit false
set_option maxRecDepth 100000
set_option maxHeartbeats 4000000
namespace PW.K68
open PySem PySem.Spec PyProof.Rows L2 PW
/-! ### the defs, read as plain data -/
def N_spans : Nat := 9
-- 0:grammar 1:word 2:found 3:changed 4:head 5:sprout 6:first 7:last 8:parts
def w_spans : WS :=
  (sSeq (sSet 2 (wDct0 true))
  (sSeq (sSet 3 (wC (.bl true)))
  (sSeq (sWhile (wTru (oV 3)) (sSeq (sSet 3 (wC (.bl false)))
  (sFor (iS (wUn wSortK (oV 0))) (gN 4) (sFor (iS (wOp wIx (oV 0) (oV 4))) (gN 5) (sFor (iR1 (wOp wAdd (oE (wUn wLen (oV 1))) (oE (wC (.int 1))))) (gN 6) (sFor (iS (wCallL 2 (fs3 f_ends_of) [(wV 0)] (aC (wTup (aC (wV 1) (aC (wV 5) (aC (wV 6) aN)))) aN))) (gT 2 (gsC (gN 7) (gsC (gN 8) gsN))) (sIf (wTst (wOp wNin (oE (wTup (aC (wV 4) (aC (wV 6) (aC (wV 7) aN))))) (oV 2))) (sSeq (sSub 2 (wTup (aC (wV 4) (aC (wV 6) (aC (wV 7) aN)))) (wTup (aC (wV 4) (aC (wV 8) aN))))
  (sSet 3 (wC (.bl true)))) sNext)))))))
  (sRet (wM 2)))))
def N_ends_of : Nat := 12
-- 0:grammar 1:found 2:told 3:word 4:sprout 5:first 6:rows 7:sign 8:longer 9:place 10:parts 11:last
def w_ends_of : WS :=
  (sSeq (sAsg (wV 2) (gT 3 (gsC (gN 3) (gsC (gN 4) (gsC (gN 5) gsN)))))
  (sSeq (sSet 6 (wLst (aC (wTup (aC (wV 5) (aC (wTup aN) aN))) aN)))
  (sSeq (sFor (iS (wV 4)) (gN 7) (sSeq (sSet 8 (wDct0 false))
  (sSeq (sFor (iS (wV 6)) (gT 2 (gsC (gN 9) (gsC (gN 10) gsN))) (sIf (wTst (wOp wNin (oV 7) (oV 0))) (sIf (wTst (wOp wEq (oE (wSlice (oV 3) (pS (wV 9)) (pS (wOp wAdd (oV 9) (oE (wC (.int 1))))))) (oV 7))) (sExpr (wSetd 8 (wOp wAdd (oV 9) (oE (wC (.int 1)))) (wOp wAdd (oV 10) (oE (wTup (aC (wV 7) aN)))))) sNext) (sFor (iR2 (wV 9) (wOp wAdd (oE (wUn wLen (oV 3))) (oE (wC (.int 1))))) (gN 11) (sIf (wTst (wOp wIn (oE (wTup (aC (wV 7) (aC (wV 9) (aC (wV 11) aN))))) (oV 1))) (sExpr (wSetd 8 (wV 11) (wOp wAdd (oV 10) (oE (wTup (aC (wOp wIx (oV 1) (oE (wTup (aC (wV 7) (aC (wV 9) (aC (wV 11) aN)))))) aN)))))) sNext))))
  (sSet 6 (wLc (iS (wUn wSortKG (oV 8))) (gN 9) wYes (wTup (aC (wV 9) (aC (wOp wIx (oV 8) (oV 9)) aN))) [9])))))
  (sRet (wM 6)))))
def N_tree : Nat := 3
-- 0:grammar 1:head 2:word
def w_tree : WS :=
  (sRet (wGet1 (oE (wCall (fs2 f_spans) (aC (wV 0) (aC (wV 2) aN)))) (oE (wTup (aC (wV 1) (aC (wC (.int 0)) (aC (wUn wLen (oV 2)) aN)))))))
def N_grows : Nat := 3
-- 0:grammar 1:head 2:word
def w_grows : WS :=
  (sRet (wOp wNotN (oE (wCall (fs3 f_tree) (aC (wV 0) (aC (wV 1) (aC (wV 2) aN))))) (oE (wC .non))))
def N_word_of : Nat := 2
-- 0:told 1:part
def w_word_of (self : FS) : WS :=
  (sRet (wMt1 "str" wJoin (oE (wC (.str []))) (oE (wLc (iS (wOp wIx (oV 0) (oE (wC (.int 1))))) (gN 1) wYes (wIf (wTst (wUn (wIsi "str") (oV 1))) (wV 1) (wCall self (aC (wV 1) aN))) [1]))))
def N_is_tree : Nat := 4
-- 0:grammar 1:value 2:signs 3:part
def w_is_tree (self : FS) : WS :=
  (sSeq (sIf (wOr (wNot (wTst (wUn (wIsi "tuple") (oV 1)))) (wOr (wTst (wOp wNe (oE (wUn wLen (oV 1))) (oE (wC (.int 2))))) (wOr (wNot (wTst (wUn (wIsi "str") (oE (wOp wIx (oV 1) (oE (wC (.int 0)))))))) (wTst (wOp wNin (oE (wOp wIx (oV 1) (oE (wC (.int 0))))) (oV 0)))))) (sRet (wC (.bl false))) sNext)
  (sSeq (sIf (wNot (wTst (wUn (wIsi "tuple") (oE (wOp wIx (oV 1) (oE (wC (.int 1)))))))) (sRet (wC (.bl false))) sNext)
  (sSeq (sSet 2 (wC (.str [])))
  (sSeq (sFor (iS (wOp wIx (oV 1) (oE (wC (.int 1))))) (gN 3) (sIf (wAnd (wTst (wUn (wIsi "str") (oV 3))) (wAnd (wTst (wOp wEq (oE (wUn wLen (oV 3))) (oE (wC (.int 1))))) (wTst (wOp wIn (oV 3) (oE (wC (.str lowL))))))) (sSet 2 (wOp wAdd (oV 2) (oV 3))) (sIf (wTst (wCall self (aC (wV 0) (aC (wV 3) aN)))) (sSet 2 (wOp wAdd (oV 2) (oE (wOp wIx (oV 3) (oE (wC (.int 0))))))) (sRet (wC (.bl false))))))
  (sRet (wOp wIn (oV 2) (oE (wOp wIx (oV 0) (oE (wOp wIx (oV 1) (oE (wC (.int 0)))))))))))))
def N_judge_tree : Nat := 4
-- 0:grammar 1:head 2:word 3:value
def w_judge_tree : WS :=
  (sRet (wAndV (wCall (fs2 (f_is_tree 30)) (aC (wV 0) (aC (wV 3) aN))) (wAndV (wOp wEq (oE (wOp wIx (oV 3) (oE (wC (.int 0))))) (oV 1)) (wOp wEq (oE (wCall (fs1 (f_word_of 30)) (aC (wV 3) aN))) (oV 2)))))
def N__law_is_tree : Nat := 4
-- 0:grammar 1:value 2:signs 3:part
def w__law_is_tree (self : FS) : WS :=
  (sSeq (sIf (wOr (wNot (wTst (wUn (wIsi "tuple") (oV 1)))) (wOr (wTst (wOp wNe (oE (wUn wLen (oV 1))) (oE (wC (.int 2))))) (wOr (wNot (wTst (wUn (wIsi "str") (oE (wOp wIx (oV 1) (oE (wC (.int 0)))))))) (wOr (wTst (wOp wNin (oE (wOp wIx (oV 1) (oE (wC (.int 0))))) (oV 0))) (wNot (wTst (wUn (wIsi "tuple") (oE (wOp wIx (oV 1) (oE (wC (.int 1)))))))))))) (sRet (wC (.bl false))) sNext)
  (sSeq (sSet 2 (wC (.str [])))
  (sSeq (sFor (iS (wOp wIx (oV 1) (oE (wC (.int 1))))) (gN 3) (sIf (wTst (wUn (wIsi "str") (oV 3))) (sSeq (sSet 2 (wOp wAdd (oV 2) (oV 3)))
  (sIf (wOr (wTst (wOp wNe (oE (wUn wLen (oV 3))) (oE (wC (.int 1))))) (wTst (wOp wNin (oV 3) (oE (wC (.str lowL)))))) (sRet (wC (.bl false))) sNext)) (sIf (wTst (wCall self (aC (wV 0) (aC (wV 3) aN)))) (sSet 2 (wOp wAdd (oV 2) (oE (wOp wIx (oV 3) (oE (wC (.int 0))))))) (sRet (wC (.bl false))))))
  (sRet (wOp wIn (oV 2) (oE (wOp wIx (oV 0) (oE (wOp wIx (oV 1) (oE (wC (.int 0))))))))))))
def N__law_word_of : Nat := 3
-- 0:told 1:found 2:part
def w__law_word_of (self : FS) : WS :=
  (sSeq (sSet 1 (wC (.str [])))
  (sSeq (sFor (iS (wOp wIx (oV 0) (oE (wC (.int 1))))) (gN 2) (sSet 1 (wOp wAdd (oV 1) (oE (wIf (wTst (wUn (wIsi "str") (oV 2))) (wV 2) (wCall self (aC (wV 2) aN)))))))
  (sRet (wM 1))))
def N__law_bent : Nat := 7
-- 0:pool 1:told 2:head 3:parts 4:way 5:at 6:part
def w__law_bent (self : PFS) : WS :=
  (sSeq (sAsg (wV 1) (gT 2 (gsC (gN 2) (gsC (gN 3) gsN))))
  (sSeq (sSet 4 (wCallP 0 (ps1 f__law_draw) (aC (wC (.int 6)) aN)))
  (sSeq (sIf (wTst (wOp wEq (oV 4) (oE (wC (.int 0))))) (sRet (wTup (aC (wIf (wTst (wOp wNe (oV 2) (oE (wC (.str [65]))))) (wC (.str [65])) (wC (.str [83]))) (aC (wV 3) aN)))) sNext)
  (sSeq (sIf (wTst (wOp wEq (oV 4) (oE (wC (.int 1))))) (sRet (wTup (aC (wV 2) (aC (wSlice (oV 3) (pS (wC (.int 1))) pN) aN)))) sNext)
  (sSeq (sIf (wTst (wOp wEq (oV 4) (oE (wC (.int 2))))) (sRet (wTup (aC (wV 2) (aC (wOp wAdd (oV 3) (oE (wTup (aC (wC (.str [97])) aN)))) aN)))) sNext)
  (sSeq (sIf (wTst (wOp wEq (oV 4) (oE (wC (.int 3))))) (sRet (wTup (aC (wV 2) (aC (wUn wList (oV 3)) aN)))) sNext)
  (sJ (sIf (wAnd (wTst (wOp wEq (oV 4) (oE (wC (.int 4))))) (wTst (wOp wNe (oV 3) (oE (wTup aN))))) (sSeq (sSet 5 (wCallP 0 (ps1 f__law_draw) (aC (wUn wLen (oV 3)) aN)))
  (sSeq (sSet 6 (wOp wIx (oV 3) (oV 5)))
  (sRet (wTup (aC (wV 2) (aC (wOp wAdd (oE (wOp wAdd (oE (wSlice (oV 3) pN (pS (wV 5)))) (oE (wTup (aC (wIf (wTst (wUn (wIsi "tuple") (oV 6))) (wCallP 0 self (aC (wV 6) aN)) (wC (.str [98]))) aN))))) (oE (wSlice (oV 3) (pS (wOp wAdd (oV 5) (oE (wC (.int 1))))) pN))) aN)))))) sNext)
  (sRet (wCallP 0 (ps1 f__law_pick) (aC (wLst (aC (wC .non) (aC (wTup (aC (wV 2) aN)) (aC (wTup (aC (wV 2) (aC (wV 3) (aC (wV 3) aN)))) (aC (wC (.str [97])) (aC (wTup (aC (wC (.int 1)) (aC (wV 3) aN))) (aC (wV 1) aN))))))) aN))))))))))
def N_law : Nat := 13
-- 0:script 1:pool 2:grammar 3:handed 4:k 5:word 6:holds 7:head 8:told 9:due 10:bent 11:right 12:sign
def w_law : WS :=
  (sSeq (sSet 1 (wCall (fs1 f__law_pool) (aC (wV 0) aN)))
  (sSeq (sSet 2 (wCallP 1 (ps1 f__law_grammar_drawn) (aC (wC (.int 3)) aN)))
  (sSeq (sSet 3 (wCall (fs1 (f__law_copied 4)) (aC (wV 2) aN)))
  (sSeq (sFor (iR1 (wC (.int 3))) (gN 4) (sSeq (sExpr (wCallP 1 (ps0 f__law_next) aN))
  (sSeq (sSet 5 (wMt1 "str" wJoin (oE (wC (.str []))) (oE (wLc (iR1 (wCallP 1 (ps1 f__law_draw) (aC (wC (.int 6)) aN))) (gN 12) wYes (wOp wIx (oE (wC (.str [97, 98]))) (oE (wCallP 1 (ps1 f__law_draw) (aC (wC (.int 2)) aN)))) [12]))))
  (sSeq (sSet 6 (wCall (fs2 f__law_spans) (aC (wV 2) (aC (wV 5) aN))))
  (sFor (iS (wUn wSortK (oV 2))) (gN 7) (sSeq (sSet 8 (wCall (fs3 f_tree) (aC (wV 3) (aC (wV 7) (aC (wV 5) aN)))))
  (sSeq (sSet 9 (wOp wIn (oE (wTup (aC (wV 7) (aC (wC (.int 0)) (aC (wUn wLen (oV 5)) aN))))) (oV 6)))
  (sSeq (sIf (wOr (wNot (wTst (wCall (fs2 (f__law_same2 8)) (aC (wCall (fs3 f_grows) (aC (wV 3) (aC (wV 7) (aC (wV 5) aN)))) (aC (wV 9) aN))))) (wTst (wOp wNe (oE (wOp wNotN (oV 8) (oE (wC .non)))) (oV 9)))) (sRet (wC (.bl false))) sNext)
  (sIf (wTst (wOp wNotN (oV 8) (oE (wC .non)))) (sSeq (sIf (wOr (wNot (wTst (wCall (fs2 (f__law_is_tree 30)) (aC (wV 2) (aC (wV 8) aN))))) (wOr (wTst (wOp wNe (oE (wOp wIx (oV 8) (oE (wC (.int 0))))) (oV 7))) (wOr (wTst (wOp wNe (oE (wCall (fs1 (f__law_word_of 30)) (aC (wV 8) aN))) (oV 5))) (wTst (wOp wNe (oE (wCall (fs1 (f_word_of 30)) (aC (wV 8) aN))) (oV 5)))))) (sRet (wC (.bl false))) sNext)
  (sSeq (sIf (wTst (wOp wNotB (oE (wCall (fs4 f_judge_tree) (aC (wV 2) (aC (wV 7) (aC (wV 5) (aC (wV 8) aN)))))) (oE (wC (.bl true))))) (sRet (wC (.bl false))) sNext)
  (sSeq (sSet 10 (wCallP 1 (ps1 (f__law_bent 30)) (aC (wV 8) aN)))
  (sSeq (sSet 11 (wAndV (wCall (fs2 (f__law_is_tree 30)) (aC (wV 2) (aC (wV 10) aN))) (wAndV (wOp wEq (oE (wOp wIx (oV 10) (oE (wC (.int 0))))) (oV 7)) (wOp wEq (oE (wCall (fs1 (f__law_word_of 30)) (aC (wV 10) aN))) (oV 5)))))
  (sIf (wOr (wNot (wTst (wCall (fs2 (f__law_same2 8)) (aC (wCall (fs4 f_judge_tree) (aC (wV 2) (aC (wV 7) (aC (wV 5) (aC (wV 10) aN))))) (aC (wV 11) aN))))) (wTst (wOp wNotB (oE (wCall (fs4 f_judge_tree) (aC (wV 2) (aC (wV 7) (aC (wOp wAdd (oV 5) (oE (wC (.str [97])))) (aC (wV 8) aN)))))) (oE (wC (.bl false)))))) (sRet (wC (.bl false))) sNext))))) sNext)))))))))
  (sRet (wCall (fs2 (f__law_same2 8)) (aC (wV 3) (aC (wV 2) aN))))))))
end PW.K68

set_option Elab.async false
set_option linter.all false
set_option autoImplicit false
set_option maxRecDepth 100000
set_option maxHeartbeats 4000000
set_option synthInstance.maxHeartbeats 2000000
set_option synthInstance.maxSize 1000000
set_option exponentiation.threshold 5000
namespace PW.K68
open PySem PySem.Spec PyProof.Rows L2 PW
local macro_rules | `(tactic| walk_at "sta") => `(tactic| with_reducible repeat (first | exact StaR.z | apply StaR.c | apply StaR.n))
local macro_rules | `(tactic| walk_at "start") => `(tactic| with_reducible first | refine LF2 (by walk_at "sta") ?_ | refine LF1 (by walk_at "sta") ?_ | refine LF3 (by walk_at "sta") ?_ | refine LF4 (by walk_at "sta") ?_ | refine LF0 (by walk_at "sta") ?_ | refine LF5 (by walk_at "sta") ?_ | refine LF6 (by walk_at "sta") ?_ | refine LP0 (by walk_at "sta") ?_ | refine LP1 (by walk_at "sta") ?_ | refine LP2 (by walk_at "sta") ?_ | refine LP3 (by walk_at "sta") ?_)
theorem prt_eq (G : Gm) (n : Nat) (p : D) : (match p with | .str [c] => decide (c ∈ lowL) | _ => isT G n p) = prt G n p := rfl
theorem isT_node (G : Gm) (n h : Nat) (ps : List D) : isT G (n + 1) (.tup [.str [h], .tup ps]) = (decide (h ∈ hds G) && ps.all (prt G n) && decide (ps.flatMap sgn ∈ rs G h)) := by
  rw [isT]
  rfl
theorem wdD_node (n : Nat) (a : D) (ps : List D) : wdD (n + 1) (.tup [a, .tup ps]) = ps.flatMap (wdP n) := by
  rw [wdD]
  rfl
/-- what is no node is no tree -/
theorem TV.cases' {n : Nat} {d : D} (h : TV n d) : (∀ G, isT G n d = false) ∨ ∃ m h ps, n = m + 1 ∧ d = .tup [.str [h], .tup ps] ∧ ps.length ≤ 4 ∧ ∀ p ∈ ps, TV m p := by
  cases h with
  | node a b => exact .inr ⟨_, _, _, rfl, rfl, a, b⟩
  | bad3 => exact .inl fun G => by unfold isT; rfl
  | _ => exact .inl fun G => by unfold isT; rfl
theorem TV.sgn1 {n : Nat} {d : D} (h : TV n d) : (sgn d).length ≤ 1 := by
  cases h <;> first | exact Nat.le_refl _ | exact Nat.zero_le _
theorem TV.sgnO {n : Nat} {d : D} {G : Gm} (h : TV n d) (hG : GW G) (e : prt G n d = true) : okS (sgn d) := by
  cases h with
  | str hc => exact fun x hx => by rw [List.mem_singleton.mp hx]; exact hc
  | @node n h ps h1 h2 =>
    have e : isT G (n + 1) (.tup [.str [h], .tup ps]) = true := e
    rw [isT_node, Bool.and_eq_true, Bool.and_eq_true] at e
    have := hG.up h (of_decide_eq_true e.1.1)
    exact fun x hx => by rw [List.mem_singleton.mp hx]; omega
  | bad1 => unfold prt isT at e; cases e
  | bad3 => unfold prt isT at e; cases e
  | lst => unfold prt isT at e; cases e
  | _ => exact fun x hx => by cases hx
theorem TV.part {n : Nat} {d : D} {G : Gm} (h : TV n d) (e : prt G n d = true) : (∃ c, d = .str [c]) ∨ (∃ h qs, d = .tup [.str [h], .tup qs] ∧ isT G n d = true) := by
  cases h with
  | str hc => exact .inl ⟨_, rfl⟩
  | node h1 h2 => exact .inr ⟨_, _, rfl, e⟩
  | bad1 => unfold prt isT at e; cases e
  | bad3 => unfold prt isT at e; cases e
  | lst => unfold prt isT at e; cases e
  | int => unfold prt isT at e; cases e
  | non => unfold prt isT at e; cases e
theorem sgn_tree {G : Gm} {n : Nat} {d : D} (h : isT G n d = true) : ∃ m h ps, n = m + 1 ∧ d = .tup [.str [h], .tup ps] := by
  cases n with
  | zero => rw [isT] at h; cases h
  | succ n =>
    unfold isT at h
    split at h
    · exact ⟨_, _, _, rfl, rfl⟩
    · cases h
theorem _root_.PW.VP.tv {G : Gm} (hG : GL G) {n : Nat} {p w : Wo} {ps : List D} (v : VP G n p ps w) : (∀ c ∈ p, c ∈ hds G ∨ c = 97 ∨ c = 98) → (∀ d ∈ ps, TV (n + 1) d ∧ prt G (n + 1) d = true ∧ okN (2 * n) d) ∧ ps.flatMap sgn = p ∧ ps.flatMap (wdP (n + 1)) = w := by
  induction v with
  | nil => exact fun _ => ⟨(fun d hd => by cases hd), rfl, rfl⟩
  | @lt n c p w ps hc v ih =>
    intro hp
    obtain ⟨a, b, e⟩ := ih fun x hx => hp x (List.mem_cons_of_mem _ hx)
    have hcc := (hp c List.mem_cons_self).resolve_left hc
    refine ⟨fun d hd => ?_, ?_, ?_⟩
    · rcases List.mem_cons.mp hd with rfl | hd
      · exact ⟨.str (by omega), decide_eq_true (lowL_mem.mpr (by omega)), okN_str fun x hx => by rw [List.mem_singleton.mp hx]; omega⟩
      · exact a d hd
    · rw [List.flatMap_cons, b]; rfl
    · rw [List.flatMap_cons, e]; rfl
  | @hd n h q u p w qs ps hq v1 v2 ih1 ih2 =>
    intro hp
    obtain ⟨a, b, e⟩ := ih2 fun x hx => hp x (List.mem_cons_of_mem _ hx)
    obtain ⟨a1, b1, e1⟩ := ih1 fun x hx => hG.ab h q hq x hx
    have hl := v1.len
    have hq3 := (hG.rul h q hq).1
    refine ⟨fun d hd => ?_, ?_, ?_⟩
    · rcases List.mem_cons.mp hd with rfl | hd
      · refine ⟨.node (by omega) fun d hd => (a1 d hd).1, ?_, ?_⟩
        · show isT G (n + 1 + 1) (.tup [.str [h], .tup qs]) = true
          rw [isT_node, b1, decide_eq_true (rs_head hq), decide_eq_true hq, List.all_eq_true.mpr fun d hd => (a1 d hd).2.1]
          rfl
        · refine okN_tup (n := 2 * n + 1) (all_cons (okN_str fun x hx => ?_) (all_cons (okN_tup (n := 2 * n) fun d hd => (a1 d hd).2.2) all_nil))
          have := hG.up h (rs_head hq)
          rw [List.mem_singleton.mp hx]; omega
      · exact a d hd
    · rw [List.flatMap_cons, b]; rfl
    · rw [List.flatMap_cons, e]
      show wdD (n + 1 + 1) (.tup [.str [h], .tup qs]) ++ w = u ++ w
      rw [wdD_node, e1]
theorem _root_.PW.VT.tv {G : Gm} (hG : GL G) {n h : Nat} {d : D} {w : Wo} (v : VT G n d h w) : TV (n + 1) d ∧ isT G (n + 1) d = true ∧ sgn d = [h] ∧ wdD (n + 1) d = w := by
  obtain ⟨m, q, qs, rfl, hq, rfl, v1⟩ := v.inv
  obtain ⟨a1, b1, e1⟩ := v1.tv hG fun x hx => hG.ab h q hq x hx
  have hl := v1.len
  have hq3 := (hG.rul h q hq).1
  refine ⟨.node (by omega) fun d hd => (a1 d hd).1, ?_, rfl, ?_⟩
  · rw [isT_node, b1, decide_eq_true (rs_head hq), decide_eq_true hq, List.all_eq_true.mpr fun d hd => (a1 d hd).2.1]
    rfl
  · rw [wdD_node, e1]
theorem _root_.PW.VP.child {G : Gm} {n : Nat} {p w : Wo} {ps : List D} (v : VP G n p ps w) {d : D} (hd : d ∈ ps) : (∃ c, d = .str [c]) ∨ ∃ h u, VT G n d h u := by
  induction v with
  | nil => cases hd
  | lt hc v ih =>
    rcases List.mem_cons.mp hd with rfl | z
    · exact .inl ⟨_, rfl⟩
    · exact ih z
  | hd hq v1 v2 _ ih2 =>
    rcases List.mem_cons.mp hd with rfl | z
    · exact .inr ⟨_, _, VT.node hq v1⟩
    · exact ih2 z
theorem law_is_tree : ∀ n a0 a1 Pp, f_is_tree (n + 1) a0 a1 Pp → LF N_is_tree (w_is_tree (fs2 (f_is_tree n))) [a0, a1] Pp := by
  rintro n a0 v Pp ⟨G, rfl, hG, hv, k⟩
  unfold N_is_tree w_is_tree gD
  walk_at "start"
  have no : isT G (n + 1) v = false → Pp (.dat (.bl false)) := fun e => by rw [e] at k; exact k
  cases hv with
  | non =>
    refine ev_ ?_
    exact no (by unfold isT; rfl)
  | str hc =>
    refine ev_ ?_
    exact no (by unfold isT; rfl)
  | bad1 =>
    refine ev_ ?_
    refine ev_iteN (fun _ => no (by unfold isT; rfl)) (fun e => absurd e (by simp only [List.length_cons, List.length_nil]; omega))
  | bad3 =>
    refine ev_ ?_
    refine ev_iteN (fun _ => no (by unfold isT; rfl)) (fun e => absurd e (by simp only [List.length_cons, List.length_nil]; omega))
  | int =>
    refine ev_ ?_
    refine ev_iteN (fun e => absurd rfl e) (fun e => no (by unfold isT; rfl))
  | @lst _ h a =>
    have no := no (by unfold isT; rfl)
    refine ev_ ?_
    refine ev_iteN (fun e => absurd rfl e) (fun e => ?_)
    refine ⟨rfl, ?_⟩
    rw [in_gD]
    refine ev_iteN (fun _ => ?_) (fun _ => ?_)
    · exact no
    · exact no
  | @node _ h ps hl hp =>
    refine ev_ ?_
    refine ev_iteN (fun e => absurd rfl e) (fun e => ?_)
    refine ⟨rfl, ?_⟩
    rw [in_gD]
    rw [isT_node] at no k
    refine ev_iteN (fun hh => ?_) (fun hh => ?_)
    · exact no (by rw [decide_eq_false hh]; rfl)
    · refine ev_ ?_
      have nol : ∀ p ∈ ps, prt G n p = false → Pp (.dat (.bl false)) := fun p hp e => no (by
        rw [Bool.and_eq_false_iff, Bool.and_eq_false_iff]
        exact .inl (.inr (List.all_eq_false.mpr ⟨p, hp, by rw [e]; exact Bool.false_ne_true⟩)))
      refine x_forK (fun i E => ∃ z3, (∀ p ∈ ps.take i, prt G n p = true) ∧ E = [some (.dat (.dct false (kdD rowD (gmW G)))), some (.dat (.tup [.str [h], .tup ps])), some (.dat (.str ((ps.take i).flatMap sgn))), z3]) ⟨none, by simp, by rw [List.take_zero]; rfl⟩ ?_ ?_
      · rintro i d E hi ⟨z3, hpre, rfl⟩
        have hdm := List.mem_of_getElem? hi
        have htv := hp d hdm
        have good : prt G n d = true → ∃ z3', (∀ p ∈ ps.take (i + 1), prt G n p = true) ∧ ([some (.dat (.dct false (kdD rowD (gmW G)))), some (.dat (.tup [.str [h], .tup ps])), some (.dat (.str ((ps.take i).flatMap sgn ++ sgn d))), some (.dat d)] : En) = [some (.dat (.dct false (kdD rowD (gmW G)))), some (.dat (.tup [.str [h], .tup ps])), some (.dat (.str ((ps.take (i + 1)).flatMap sgn))), z3'] := fun eg => by
          refine ⟨some (.dat d), fun q hq => ?_, ?_⟩
          · rw [take_snoc hi] at hq
            rcases List.mem_append.mp hq with z | z
            · exact hpre q z
            · rw [List.mem_singleton.mp z]; exact eg
          · rw [take_snoc hi, List.flatMap_append, List.flatMap_singleton]
        have hfl : ((ps.take i).flatMap sgn).length ≤ 10000 := by
          have : ∀ l : List D, (∀ p ∈ l, TV n p) → (l.flatMap sgn).length ≤ l.length := fun l hl => by
            induction l with
            | nil => exact Nat.zero_le _
            | cons a l ih =>
              rw [List.flatMap_cons, List.length_append, List.length_cons]
              have h1 := (hl a List.mem_cons_self).sgn1
              have h2 := ih fun p hp => hl p (List.mem_cons_of_mem _ hp)
              omega
          have h1 := this (ps.take i) fun p hp' => hp p (List.mem_of_mem_take hp')
          rw [List.length_take] at h1
          omega
        have bad : isT G n d = false → prt G n d = false → Pp (.dat (.bl false)) := fun _ e => nol d hdm e
        cases htv with
        | @str m c hc =>
          refine ev_ ?_
          refine ⟨by show 1 ≤ _; omega, ?_⟩
          refine ev_ite (fun _ => ?_) (fun e => absurd (by simp only [List.length_cons, List.length_nil]; rfl) e)
          refine ev_ite (fun e => ?_) (fun e => ?_)
          · refine ⟨by show _ + 1 ≤ _; omega, ?_⟩
            exact good (decide_eq_true e)
          · refine ⟨G, rfl, hG, .str hc, ?_⟩
            rw [show isT G (m + 1) (.str [c]) = false by unfold isT; rfl]
            refine ev_ ?_
            exact nol _ hdm (decide_eq_false e)
        | non =>
          refine ev_ ⟨G, rfl, hG, .non, ?_⟩
          rw [show isT G (_ + 1) .non = false by unfold isT; rfl]
          exact ev_ (nol _ hdm (by unfold prt isT; rfl))
        | bad1 =>
          refine ev_ ⟨G, rfl, hG, .bad1, ?_⟩
          rw [show isT G (_ + 1) (.tup [.str [_]]) = false by unfold isT; rfl]
          exact ev_ (nol _ hdm (by unfold prt isT; rfl))
        | bad3 =>
          refine ev_ ⟨G, rfl, hG, .bad3, ?_⟩
          rw [show isT G (_ + 1) (.tup [.str [_], .tup _, .tup _]) = false by unfold isT; rfl]
          exact ev_ (nol _ hdm (by unfold prt isT; rfl))
        | int =>
          refine ev_ ⟨G, rfl, hG, .int, ?_⟩
          rw [show isT G (_ + 1) (.tup [.int 1, _]) = false by unfold isT; rfl]
          exact ev_ (nol _ hdm (by unfold prt isT; rfl))
        | lst =>
          refine ev_ ⟨G, rfl, hG, .lst, ?_⟩
          rw [show isT G (_ + 1) (.tup [.str [_], .lst _]) = false by unfold isT; rfl]
          exact ev_ (nol _ hdm (by unfold prt isT; rfl))
        | @node m h' qs h1 h2 =>
          refine ev_ ⟨G, rfl, hG, .node h1 h2, ?_⟩
          cases e : isT G (m + 1) (.tup [.str [h'], .tup qs]) with
          | false => exact ev_ (nol _ hdm e)
          | true =>
            refine ev_ ?_
            refine ⟨by show _ + 1 ≤ _; omega, ?_⟩
            exact good e
      · rintro E ⟨z3, hpre, rfl⟩
        rw [List.take_length] at hpre ⊢
        rw [List.all_eq_true.mpr hpre, decide_eq_true hh] at k
        refine ev_ ⟨rfl, _, look_at hh, ?_⟩
        have hoR : ∀ s ∈ rs G h, okS s := fun s hs => (hG.rul h s hs).2
        have hoS : okS (ps.flatMap sgn) := fun c hc => by
          obtain ⟨p, hp', hc⟩ := List.mem_flatMap.mp hc
          exact (hp p hp').sgnO hG (hpre p hp') c hc
        unfold rowD
        refine ev_ ?_
        refine ⟨.inl ⟨rfl, flat_strs _⟩, ?_⟩
        rw [anyD_strs]
        exact k
theorem law__law_is_tree : ∀ n a0 a1 Pp, f__law_is_tree (n + 1) a0 a1 Pp → LF N__law_is_tree (w__law_is_tree (fs2 (f__law_is_tree n))) [a0, a1] Pp := by
  rintro n a0 v Pp ⟨G, rfl, hG, hv, k⟩
  unfold N__law_is_tree w__law_is_tree gD
  walk_at "start"
  have no : isT G (n + 1) v = false → Pp (.dat (.bl false)) := fun e => by rw [e] at k; exact k
  cases hv with
  | non =>
    refine ev_ ?_
    exact no (by unfold isT; rfl)
  | str hc =>
    refine ev_ ?_
    exact no (by unfold isT; rfl)
  | bad1 =>
    refine ev_ ?_
    refine ev_iteN (fun _ => no (by unfold isT; rfl)) (fun e => absurd e (by simp only [List.length_cons, List.length_nil]; omega))
  | bad3 =>
    refine ev_ ?_
    refine ev_iteN (fun _ => no (by unfold isT; rfl)) (fun e => absurd e (by simp only [List.length_cons, List.length_nil]; omega))
  | int =>
    refine ev_ ?_
    refine ev_iteN (fun e => absurd rfl e) (fun e => no (by unfold isT; rfl))
  | @lst _ h a =>
    have no := no (by unfold isT; rfl)
    refine ev_ ?_
    refine ev_iteN (fun e => absurd rfl e) (fun e => ?_)
    refine ⟨rfl, ?_⟩
    rw [in_gD]
    refine ev_iteN (fun _ => ?_) (fun _ => ?_)
    · exact no
    · exact no
  | @node _ h ps hl hp =>
    refine ev_ ?_
    refine ev_iteN (fun e => absurd rfl e) (fun e => ?_)
    refine ⟨rfl, ?_⟩
    rw [in_gD]
    rw [isT_node] at no k
    refine ev_iteN (fun hh => ?_) (fun hh => ?_)
    · exact no (by rw [decide_eq_false hh]; rfl)
    · refine ev_ ?_
      have nol : ∀ p ∈ ps, prt G n p = false → Pp (.dat (.bl false)) := fun p hp e => no (by
        rw [Bool.and_eq_false_iff, Bool.and_eq_false_iff]
        exact .inl (.inr (List.all_eq_false.mpr ⟨p, hp, by rw [e]; exact Bool.false_ne_true⟩)))
      refine x_forK (fun i E => ∃ z3, (∀ p ∈ ps.take i, prt G n p = true) ∧ E = [some (.dat (.dct false (kdD rowD (gmW G)))), some (.dat (.tup [.str [h], .tup ps])), some (.dat (.str ((ps.take i).flatMap sgn))), z3]) ⟨none, by simp, by rw [List.take_zero]; rfl⟩ ?_ ?_
      · rintro i d E hi ⟨z3, hpre, rfl⟩
        have hdm := List.mem_of_getElem? hi
        have htv := hp d hdm
        have good : prt G n d = true → ∃ z3', (∀ p ∈ ps.take (i + 1), prt G n p = true) ∧ ([some (.dat (.dct false (kdD rowD (gmW G)))), some (.dat (.tup [.str [h], .tup ps])), some (.dat (.str ((ps.take i).flatMap sgn ++ sgn d))), some (.dat d)] : En) = [some (.dat (.dct false (kdD rowD (gmW G)))), some (.dat (.tup [.str [h], .tup ps])), some (.dat (.str ((ps.take (i + 1)).flatMap sgn))), z3'] := fun eg => by
          refine ⟨some (.dat d), fun q hq => ?_, ?_⟩
          · rw [take_snoc hi] at hq
            rcases List.mem_append.mp hq with z | z
            · exact hpre q z
            · rw [List.mem_singleton.mp z]; exact eg
          · rw [take_snoc hi, List.flatMap_append, List.flatMap_singleton]
        have hfl : ((ps.take i).flatMap sgn).length ≤ 10000 := by
          have : ∀ l : List D, (∀ p ∈ l, TV n p) → (l.flatMap sgn).length ≤ l.length := fun l hl => by
            induction l with
            | nil => exact Nat.zero_le _
            | cons a l ih =>
              rw [List.flatMap_cons, List.length_append, List.length_cons]
              have h1 := (hl a List.mem_cons_self).sgn1
              have h2 := ih fun p hp => hl p (List.mem_cons_of_mem _ hp)
              omega
          have h1 := this (ps.take i) fun p hp' => hp p (List.mem_of_mem_take hp')
          rw [List.length_take] at h1
          omega
        have bad : isT G n d = false → prt G n d = false → Pp (.dat (.bl false)) := fun _ e => nol d hdm e
        cases htv with
        | @str m c hc =>
          refine ev_ ?_
          refine ⟨by show _ + 1 ≤ _; omega, by show 1 ≤ _; omega, ?_⟩
          refine ev_iteN (fun e => absurd (by simp only [List.length_cons, List.length_nil]; rfl) e) (fun _ => ?_)
          refine ev_ ?_
          refine ev_iteN (fun e => ?_) (fun e => ?_)
          · exact nol _ hdm (decide_eq_false e)
          · exact good (decide_eq_true e)
        | non =>
          refine ev_ ⟨G, rfl, hG, .non, ?_⟩
          rw [show isT G (_ + 1) .non = false by unfold isT; rfl]
          exact ev_ (nol _ hdm (by unfold prt isT; rfl))
        | bad1 =>
          refine ev_ ⟨G, rfl, hG, .bad1, ?_⟩
          rw [show isT G (_ + 1) (.tup [.str [_]]) = false by unfold isT; rfl]
          exact ev_ (nol _ hdm (by unfold prt isT; rfl))
        | bad3 =>
          refine ev_ ⟨G, rfl, hG, .bad3, ?_⟩
          rw [show isT G (_ + 1) (.tup [.str [_], .tup _, .tup _]) = false by unfold isT; rfl]
          exact ev_ (nol _ hdm (by unfold prt isT; rfl))
        | int =>
          refine ev_ ⟨G, rfl, hG, .int, ?_⟩
          rw [show isT G (_ + 1) (.tup [.int 1, _]) = false by unfold isT; rfl]
          exact ev_ (nol _ hdm (by unfold prt isT; rfl))
        | lst =>
          refine ev_ ⟨G, rfl, hG, .lst, ?_⟩
          rw [show isT G (_ + 1) (.tup [.str [_], .lst _]) = false by unfold isT; rfl]
          exact ev_ (nol _ hdm (by unfold prt isT; rfl))
        | @node m h' qs h1 h2 =>
          refine ev_ ⟨G, rfl, hG, .node h1 h2, ?_⟩
          cases e : isT G (m + 1) (.tup [.str [h'], .tup qs]) with
          | false => exact ev_ (nol _ hdm e)
          | true =>
            refine ev_ ?_
            refine ⟨by show _ + 1 ≤ _; omega, ?_⟩
            exact good e
      · rintro E ⟨z3, hpre, rfl⟩
        rw [List.take_length] at hpre ⊢
        rw [List.all_eq_true.mpr hpre, decide_eq_true hh] at k
        refine ev_ ⟨rfl, _, look_at hh, ?_⟩
        have hoR : ∀ s ∈ rs G h, okS s := fun s hs => (hG.rul h s hs).2
        have hoS : okS (ps.flatMap sgn) := fun c hc => by
          obtain ⟨p, hp', hc⟩ := List.mem_flatMap.mp hc
          exact (hp p hp').sgnO hG (hpre p hp') c hc
        unfold rowD
        refine ev_ ?_
        refine ⟨.inl ⟨rfl, flat_strs _⟩, ?_⟩
        rw [anyD_strs]
        exact k
theorem law_word_of : ∀ n a0 Pp, f_word_of (n + 1) a0 Pp → LF N_word_of (w_word_of (fs1 (f_word_of n))) [a0] Pp := by
  rintro n v Pp ⟨G, hv, ht, hl, k⟩
  unfold N_word_of w_word_of
  walk_at "start"
  obtain ⟨m, h, ps, e, rfl⟩ := sgn_tree ht
  cases e
  rw [wdD_node] at hl k
  rw [isT_node, Bool.and_eq_true, Bool.and_eq_true] at ht
  have hpr := List.all_eq_true.mp ht.1.2
  cases hv with
  | node h1 h2 =>
    have seg : ∀ i d, ps[i]? = some d → ((ps.take i).flatMap (wdP n)).length + (wdP n d).length ≤ 1000 := fun i d hi => by
      have e := flat_take (wdP n) hi
      have : ((ps.take (i + 1)).flatMap (wdP n)).length ≤ (ps.flatMap (wdP n)).length := by
        conv => rhs; rw [← List.take_append_drop (i + 1) ps, List.flatMap_append, List.length_append]
        omega
      rw [e, List.length_append] at this
      omega
    refine ev_ ?_
    refine x_lcM' (fun d => .str (wdP n d)) (fun i d hi => ?_) ?_
    · have hdm := List.mem_of_getElem? hi
      have hs := seg i d hi
      rcases (h2 d hdm).part (hpr d hdm) with ⟨c, rfl⟩ | ⟨h', qs, rfl, e⟩
      · refine ev_ ?_
        exact yK_c hi (by omega) rfl rfl
      · refine ev_ ?_
        have h9 : wdP n (.tup [.str [h'], .tup qs]) = wdD n (.tup [.str [h'], .tup qs]) := rfl
        rw [h9] at hs
        refine ev_ ⟨G, h2 _ hdm, e, by omega, ?_⟩
        exact yK_c hi (by omega) rfl rfl
    · have e1 : ps.map (fun d => D.str (wdP n d)) = (ps.map (wdP n)).map D.str := by rw [List.map_map]; rfl
      rw [e1]
      refine ev_ ?_
      rw [joinD_empty, ← List.flatMap_def]
      refine ⟨?_, k⟩
      have : ∀ l : List D, ((l.map (wdP n)).map (·.length)).sum = (l.flatMap (wdP n)).length := fun l => by
        rw [List.map_map, List.length_flatMap]; rfl
      rw [this]
      simp only [List.length_nil]
      omega
theorem law__law_word_of : ∀ n a0 Pp, f__law_word_of (n + 1) a0 Pp → LF N__law_word_of (w__law_word_of (fs1 (f__law_word_of n))) [a0] Pp := by
  rintro n v Pp ⟨G, hv, ht, hl, k⟩
  unfold N__law_word_of w__law_word_of
  walk_at "start"
  obtain ⟨m, h, ps, e, rfl⟩ := sgn_tree ht
  cases e
  rw [wdD_node] at hl k
  rw [isT_node, Bool.and_eq_true, Bool.and_eq_true] at ht
  have hpr := List.all_eq_true.mp ht.1.2
  cases hv with
  | node h1 h2 =>
    have seg : ∀ i d, ps[i]? = some d → ((ps.take i).flatMap (wdP n)).length + (wdP n d).length ≤ 1000 := fun i d hi => by
      have e := flat_take (wdP n) hi
      have : ((ps.take (i + 1)).flatMap (wdP n)).length ≤ (ps.flatMap (wdP n)).length := by
        conv => rhs; rw [← List.take_append_drop (i + 1) ps, List.flatMap_append, List.length_append]
        omega
      rw [e, List.length_append] at this
      omega
    refine ev_ ?_
    refine x_forK (fun i E => ∃ z2, E = [some (.dat (.tup [.str [h], .tup ps])), some (.dat (.str ((ps.take i).flatMap (wdP n)))), z2]) ⟨none, by rw [List.take_zero]; rfl⟩ ?_ ?_
    · rintro i d E hi ⟨z2, rfl⟩
      have hdm := List.mem_of_getElem? hi
      have hs := seg i d hi
      rw [flat_take (wdP n) hi]
      rcases (h2 d hdm).part (hpr d hdm) with ⟨c, rfl⟩ | ⟨h', qs, rfl, e⟩
      · refine ev_ ?_
        exact ⟨by show _ + (wdP n (.str [c])).length ≤ _; omega, _, rfl⟩
      · have h9 : wdP n (.tup [.str [h'], .tup qs]) = wdD n (.tup [.str [h'], .tup qs]) := rfl
        rw [h9] at hs ⊢
        refine ev_ ⟨G, h2 _ hdm, e, by omega, ?_⟩
        refine ev_ ?_
        exact ⟨by omega, _, rfl⟩
    · rintro E ⟨z2, rfl⟩
      rw [List.take_length]
      exact ev_ k
theorem law_tree : ∀ a0 a1 a2 Pp, f_tree a0 a1 a2 Pp → LF N_tree w_tree [a0, a1, a2] Pp := by
  rintro a0 a1 a2 Pp ⟨G, c, word, rfl, rfl, rfl, hG, hwl, hc, k1, k2⟩
  unfold N_tree w_tree
  walk_at "start"
  refine ev_ ⟨G, word, rfl, rfl, hG, hwl, fun F hF hall => ?_⟩
  refine ev_ ⟨by omega, keyS (c, 0, word.length), ?_⟩
  rw [show D.tup [D.str [c], D.int 0, D.int (word.length : Nat)] = encS (c, 0, word.length) from rfl]
  by_cases h : (c, 0, word.length) ∈ F.map (·.1)
  · obtain ⟨e, he, e1⟩ := List.mem_map.mp h
    rw [lookS hF.nd (t := (c, 0, word.length)) (d := e.2) (by rw [← e1]; exact he)]
    have := hF.vt e he
    rw [e1] at this
    have h2 := hF.fu_le (i := 0) (j := word.length)
    rw [Nat.sub_zero] at h2
    have h3 : VT G (fu G F 0 word.length) e.2 c ((word.drop 0).take (word.length - 0)) := this
    rw [List.drop_zero, Nat.sub_zero, List.take_length] at h3
    exact k2 _ ⟨h3.1.le h2, h3.2⟩
  · rw [lookS_none h]
    refine k1 fun g => h (hall _ ⟨hc, Nat.zero_le _, Nat.le_refl _, ?_⟩)
    show Gr G [c] ((word.drop 0).take (word.length - 0))
    rw [List.drop_zero, Nat.sub_zero, List.take_length]
    exact g
open Classical in
theorem law_grows : ∀ a0 a1 a2 Pp, f_grows a0 a1 a2 Pp → LF N_grows w_grows [a0, a1, a2] Pp := by
  rintro a0 a1 a2 Pp ⟨G, c, word, rfl, rfl, rfl, hG, hwl, hc, k⟩
  unfold N_grows w_grows
  walk_at "start"
  refine ev_ ⟨G, c, word, rfl, rfl, rfl, hG, hwl, hc, fun h => ?_, fun d h => ?_⟩
  · rw [decide_eq_false h] at k
    exact ev_ k
  · rw [decide_eq_true h.1.gr] at k
    obtain ⟨m, q, qs, _, _, rfl, _⟩ := h.inv
    exact ev_ k
theorem law_judge_tree : ∀ a0 a1 a2 a3 Pp, f_judge_tree a0 a1 a2 a3 Pp → LF N_judge_tree w_judge_tree [a0, a1, a2, a3] Pp := by
  rintro a0 a1 a2 v Pp ⟨G, c, word, rfl, rfl, rfl, hG, hv, hl, k⟩
  unfold N_judge_tree w_judge_tree
  walk_at "start"
  refine ev_ ⟨G, rfl, hG, hv, ?_⟩
  unfold jdg at k
  cases e : isT G 30 v with
  | false =>
    rw [e] at k
    exact ev_ k
  | true =>
    have hl := hl e
    rw [e] at k
    obtain ⟨m, h, ps, e1, rfl⟩ := sgn_tree e
    refine ev_ ?_
    refine ev_ite (fun e2 => ?_) (fun e2 => ?_)
    · refine ev_ ⟨G, hv, e, hl, ?_⟩
      have e3 : decide (sgn (.tup [.str [h], .tup ps]) = [c]) = true := decide_eq_true e2
      rw [e3] at k
      exact ev_ k
    · have e3 : decide (sgn (.tup [.str [h], .tup ps]) = [c]) = false := decide_eq_false e2
      rw [e3] at k
      exact k
theorem law__law_bent : ∀ n p a0 a1 Pp, f__law_bent (n + 1) a0 a1 Pp → LP N__law_bent (w__law_bent (ps1 (f__law_bent n))) p a0 [a1] Pp := by
  rintro n p pl v Pp ⟨hpl, m, G, h, w, e, hm, hG, hv, k⟩
  cases e
  unfold N__law_bent w__law_bent
  walk_at "start"
  obtain ⟨ht1, ht2, _, hw1⟩ := hv.tv hG
  obtain ⟨m', q, qs, rfl, hq, rfl, hqs⟩ := hv.inv
  obtain ⟨a1, b1, e1⟩ := hqs.tv hG fun x hx => hG.ab h q hq x hx
  have hW := hG.toGW
  have hl := hqs.len
  have hq3 := (hG.rul h q hq).1
  refine ev_ ⟨hpl, ⟨by decide, by decide⟩, fun r pl' hr0 hr hpl' => ?_⟩
  have fin : ∀ h' ps' pl', isPool pl' → ps'.length ≤ 4 → (∀ p ∈ ps', TV (m' + 1) p) → (∀ H, (∀ p ∈ ps', prt H (m' + 1) p = true) → (ps'.flatMap (wdP (m' + 1))).length ≤ w.length + 1) → Pp (.dat (.tup [.str [h'], .tup ps'])) pl' := fun h' ps' pl' hp' h1 h2 h3 => k _ _ (.node h1 h2) (fun H hH => by
    rw [wdD_node]
    rw [isT_node, Bool.and_eq_true, Bool.and_eq_true] at hH
    exact h3 H (List.all_eq_true.mp hH.1.2)) hp'
  have oth : ∀ d pl', isPool pl' → TV (m' + 2) d → (∀ H, isT H (m' + 2) d = false) → Pp (.dat d) pl' := fun d pl' hp' h1 h2 => k _ _ h1 (fun H hH => by rw [h2] at hH; cases hH) hp'
  have hqTV : ∀ d ∈ qs, TV (m' + 1) d := fun d hd => (a1 d hd).1
  have hww : (qs.flatMap (wdP (m' + 1))).length ≤ w.length + 1 := by rw [e1]; omega
  refine ev_ ?_
  refine ev_ite (fun r0 => ?_) (fun r0 => ?_)
  · refine ev_ ?_
    refine ev_iteN (fun _ => ?_) (fun _ => ?_)
    · refine ev_ ?_
      exact fin _ _ _ hpl' (by omega) hqTV fun _ _ => hww
    · refine ev_ ?_
      exact fin _ _ _ hpl' (by omega) hqTV fun _ _ => hww
  refine ev_ ?_
  refine ev_ite (fun r1 => ?_) (fun r1 => ?_)
  · refine ev_ ?_
    rw [cut_from _ (by decide)]
    refine fin _ _ _ hpl' (by rw [List.length_drop]; omega) (fun p hp => hqTV p (List.mem_of_mem_drop hp)) fun _ _ => ?_
    have : ((qs.drop 1).flatMap (wdP (m' + 1))).length ≤ (qs.flatMap (wdP (m' + 1))).length := by
      conv => rhs; rw [← List.take_append_drop 1 qs, List.flatMap_append, List.length_append]
      omega
    exact Nat.le_trans this hww
  refine ev_ ?_
  refine ev_ite (fun r2 => ?_) (fun r2 => ?_)
  · refine ev_ ?_
    refine ⟨by simp only [List.length_cons, List.length_nil]; omega, ?_⟩
    refine fin _ _ _ hpl' (by rw [List.length_append]; simp only [List.length_cons, List.length_nil]; omega) (fun p hp => ?_) fun _ _ => ?_
    · rcases List.mem_append.mp hp with z | z
      · exact hqTV p z
      · rw [List.mem_singleton.mp z]; exact .str (by decide)
    · rw [List.flatMap_append, List.length_append, e1]
      exact Nat.le_refl _
  refine ev_ ?_
  refine ev_ite (fun r3 => ?_) (fun r3 => ?_)
  · refine ev_ ?_
    exact oth _ _ hpl' .lst fun H => by unfold isT; rfl
  refine x_join (fun E => E = [some (.par p pl'), some (.dat (.tup [.str [h], .tup qs])), some (.dat (.str [h])), some (.dat (.tup qs)), some (.dat (.int r)), none, none]) (fun nx' hn => ?_) ?_
  · refine ev_ ?_
    refine ev_ite (fun r4 => ?_) (fun r4 => ?_)
    · have hok : okD (.tup qs) = true := (okN_tup (n := 2 * m') fun d hd => (a1 d hd).2.2).ok (by omega)
      refine ⟨hok, rfl, ?_⟩
      cases e4 : eqD (.tup qs) (.tup []) with
      | true => exact hn _ rfl
      | false =>
        have hq0 : qs ≠ [] := fun e => by subst e; cases e4
        have hlp : 0 < qs.length := List.length_pos_iff.mpr hq0
        refine Eq.mpr (if_pos rfl) ?_
        refine ev_ ⟨hpl', ⟨by omega, by omega⟩, fun a pl2 ha0 ha hpl2 => ?_⟩
        obtain ⟨i, rfl⟩ := Int.eq_ofNat_of_zero_le ha0
        have hi : i < qs.length := by omega
        refine ev_ ⟨qs[i], by rw [atI_nat]; exact List.getElem?_eq_getElem hi, ?_⟩
        have hi' : qs[i]? = some qs[i] := List.getElem?_eq_getElem hi
        generalize qs[i] = d at hi'
        have hdm := List.mem_of_getElem? hi'
        have ht := a1 d hdm
        have fin2 : ∀ d' pl', isPool pl' → TV (m' + 1) d' → (∀ H, isT H (m' + 1) d' = true → (wdD (m' + 1) d').length ≤ (wdP (m' + 1) d).length + 1) → Pp (.dat (.tup [.str [h], .tup (qs.take i ++ [d'] ++ qs.drop (i + 1))])) pl' := fun d' pl' hp' t' w' => by
          refine fin _ _ _ hp' (by simp only [List.length_append, List.length_take, List.length_drop, List.length_cons, List.length_nil]; omega) (fun p hp => ?_) fun H hH => ?_
          · rcases List.mem_append.mp hp with z | z
            · rcases List.mem_append.mp z with z | z
              · exact hqTV p (List.mem_of_mem_take z)
              · rw [List.mem_singleton.mp z]; exact t'
            · exact hqTV p (List.mem_of_mem_drop z)
          · have hd' := hH d' (by simp)
            have hb : (wdP (m' + 1) d').length ≤ (wdP (m' + 1) d).length + 1 := by
              rcases t'.part hd' with ⟨c, rfl⟩ | ⟨h2, qs2, rfl, e⟩
              · show 1 ≤ _; omega
              · exact w' H e
            have hw : w = (qs.take i).flatMap (wdP (m' + 1)) ++ (wdP (m' + 1) d ++ (qs.drop (i + 1)).flatMap (wdP (m' + 1))) := by
              rw [← e1]
              conv => lhs; rw [← List.take_append_drop (i + 1) qs, List.flatMap_append, flat_take _ hi', List.append_assoc]
            rw [hw]
            simp only [List.flatMap_append, List.flatMap_singleton, List.length_append]
            omega
        rcases ht.1.part ht.2.1 with ⟨c, rfl⟩ | ⟨h2, qs2, rfl, e⟩
        · refine ev_ ?_
          rw [cut_to _ (by omega), cut_from _ (by omega), Int.toNat_natCast, show ((i : Int) + 1).toNat = i + 1 by omega]
          refine ⟨?_, ?_, fin2 _ _ hpl2 (.str (by decide)) fun H e => by unfold isT at e; cases e⟩
          · simp only [List.length_take, List.length_cons, List.length_nil]; omega
          · simp only [List.length_append, List.length_take, List.length_drop, List.length_cons, List.length_nil]; omega
        · rcases hqs.child hdm with ⟨c, ec⟩ | ⟨h3, u, hu⟩
          · cases ec
          have hu2 := (hu.tv hG).2.2.2
          refine ev_ ⟨hpl2, m', G, h3, u, rfl, by omega, hG, hu, fun d' pl3 t' w' hpl3 => ?_⟩
          refine ev_ ?_
          rw [cut_to _ (by omega), cut_from _ (by omega), Int.toNat_natCast, show ((i : Int) + 1).toNat = i + 1 by omega]
          refine ⟨?_, ?_, fin2 _ _ hpl3 t' fun H e => ?_⟩
          · simp only [List.length_take, List.length_cons, List.length_nil]; omega
          · simp only [List.length_append, List.length_take, List.length_drop, List.length_cons, List.length_nil]; omega
          · have := w' H e
            have h9 : wdP (m' + 1) (.tup [.str [h2], .tup qs2]) = wdD (m' + 1) (.tup [.str [h2], .tup qs2]) := rfl
            rw [h9, hu2]; exact this
    · exact hn _ rfl
  · rintro E rfl
    refine ev_ ⟨hpl', ⟨by simp, by show 6 ≤ _; omega⟩, fun d pl2 hd hpl2 => ?_⟩
    simp only [List.mem_cons, List.not_mem_nil, or_false] at hd
    rcases hd with rfl | rfl | rfl | rfl | rfl | rfl
    · exact oth _ _ hpl2 .non fun H => by unfold isT; rfl
    · exact oth _ _ hpl2 .bad1 fun H => by unfold isT; rfl
    · exact oth _ _ hpl2 .bad3 fun H => by unfold isT; rfl
    · exact oth _ _ hpl2 (.str (by decide)) fun H => by unfold isT; rfl
    · exact oth _ _ hpl2 .int fun H => by unfold isT; rfl
    · exact fin _ _ _ hpl2 (by omega) hqTV fun _ _ => hww
open Classical in
theorem law_law : ∀ a0 Pp, f_law a0 Pp → LF N_law w_law [a0] Pp := by
  rintro a0 Pp ⟨ns, rfl, hns, kk⟩
  unfold N_law w_law
  walk_at "start"
  refine ev_ fun d hd => ?_
  refine ev_ ⟨hd, 3, rfl, by omega, by omega, fun G d' hG hd' => ?_⟩
  have hL := hG.toGL
  have hW := hL.toGW
  refine ev_ ⟨cpy_gD hW 1, ?_⟩
  refine ev_ ⟨by decide, ?_⟩
  refine x_forK (fun t E => ∃ (x : D) (b3 : B) (z4 z5 z6 z7 z8 z9 z10 z11 : Option B), isPool x ∧ (b3 = .own (gD G) ∨ b3 = .dat (gD G)) ∧ E = [some (.dat (.scr ns)), some (.own x), some (.dat (gD G)), some b3, z4, z5, z6, z7, z8, z9, z10, z11, none]) ⟨d', _, none, none, none, none, none, none, none, none, hd', .inl rfl, rfl⟩ ?_ ?_
  · clear hd' d'
    rintro t d0 E ht ⟨x, b3, z4, z5, z6, z7, z8, z9, z10, z11, hx, hb3, rfl⟩
    obtain ⟨htl, rfl⟩ := rng_get ht
    refine ev_ ⟨hx, fun x2 hx2 => ?_⟩
    refine ev_ ⟨hx2, ⟨by decide, by decide⟩, fun l x3 l0 l1 hx3 => ⟨by omega, ?_⟩⟩
    refine x_lcJ (fun y => [some (.dat (.scr ns)), some (.own y), some (.dat (gD G)), some b3, some (.dat (.int (0 + (t : Int)))), z5, z6, z7, z8, z9, z10, z11, none]) isPool (fun _ d => ∃ c, d = .str [c] ∧ (c = 97 ∨ c = 98)) x3 rfl hx3 (fun i d acc x hi hlt hp hW => ?_) (fun acc x4 hl ha hx4 => ?_)
    · obtain ⟨hlt, rfl⟩ := rng_get hi
      refine ev_ ⟨hp, ⟨by decide, by decide⟩, fun v y w0 w1 hy => ?_⟩
      have hv : v = 0 ∨ v = 1 := by omega
      rcases hv with rfl | rfl
      · refine ⟨by decide, 97, rfl, ?_⟩
        exact aK_c y (by rw [rng_len]; omega) hW (by rw [rng_len]; omega) rfl hy ⟨97, rfl, .inl rfl⟩
      · refine ⟨by decide, 98, rfl, ?_⟩
        exact aK_c y (by rw [rng_len]; omega) hW (by rw [rng_len]; omega) rfl hy ⟨98, rfl, .inr rfl⟩
    obtain ⟨word, rfl, hl2, hw2⟩ := acc_of (f := fun c : Nat => D.str [c]) (p := fun c => c = 97 ∨ c = 98) ha
    have hwl : word.length ≤ 5 := by rw [hl2, hl, rng_len]; omega
    have hj : word.map (fun c : Nat => D.str [c]) = (word.map fun c => [c]).map D.str := by rw [List.map_map]; rfl
    have hfl : ∀ w : Wo, ((w.map fun c => [c])).flatten = w := fun w => by
      induction w with
      | nil => rfl
      | cons a l ih => rw [List.map_cons, List.flatten_cons, ih]; rfl
    have hsm : ∀ w : Wo, ((w.map fun c => [c]).map (·.length)).sum = w.length := fun w => by
      induction w with
      | nil => rfl
      | cons a l ih => rw [List.map_cons, List.map_cons, List.sum_cons, ih, List.length_cons]; simp only [List.length_cons, List.length_nil]; omega
    rw [hj]
    refine ev_ ?_
    rw [joinD_empty, hfl]
    refine ⟨by rw [hsm]; simp only [List.length_nil]; omega, ?_⟩
    have tri5 : G.length * tri word.length ≤ 190 := by
      have h1 : tri word.length ≤ tri 5 := tri_mono hwl (by decide)
      have h2 : tri 5 = 21 := rfl
      have := Nat.mul_le_mul hW.few (Nat.le_trans h1 (Nat.le_of_eq h2))
      omega
    refine ev_ ⟨G, word, rfl, rfl, hW, by omega, tri5, fun L nL mL => ?_⟩
    refine ev_ ?_
    refine x_forK (fun i E => ∃ (x : D) (b3 : B) (b6 : B) (z7 z8 z9 z10 z11 : Option B), isPool x ∧ (b3 = .own (gD G) ∨ b3 = .dat (gD G)) ∧ (b6 = .own (.lst (L.map encS)) ∨ b6 = .dat (.lst (L.map encS))) ∧ E = [some (.dat (.scr ns)), some (.own x), some (.dat (gD G)), some b3, some (.dat (.int (0 + (t : Int)))), some (.dat (.str word)), some b6, z7, z8, z9, z10, z11, none]) ⟨x4, b3, _, z7, z8, z9, z10, z11, hx4, hb3, .inl rfl, rfl⟩ ?_ ?_
    · clear hx4 x4 hx3 x3 hx2 x2 hx x hb3 b3 z4 z5 z6 z7 z8 z9 z10 z11
      rintro i d E hi ⟨x, b3, b6, z7, z8, z9, z10, z11, hx, hb3, hb6, rfl⟩
      obtain ⟨c, hh, rfl⟩ := sgs_get hi
      have hc := GW.sh_mem.mp (List.mem_of_getElem? hh)
      have hmem : ∀ P : Prop, (P ↔ Gr G [c] word) → (decide ((c, 0, word.length) ∈ L) = true ↔ P) := fun P hP => by
        rw [decide_eq_true_iff, mL, hP]
        show _ ∧ _ ∧ _ ∧ Gr G [c] ((word.drop 0).take (word.length - 0)) ↔ _
        rw [List.drop_zero, Nat.sub_zero, List.take_length]
        exact ⟨fun h => h.2.2.2, fun h => ⟨hc, Nat.zero_le _, Nat.le_refl _, h⟩⟩
      have hsp : ∀ t ∈ L, Span G word t := fun t ht => (mL t).mp ht
      have okL : okD (.lst (L.map encS)) = true := (okN_sps fun t ht => by have := hW.up _ (hsp t ht).1; omega).ok
      have okc : okD (encS (c, 0, word.length)) = true := (okN_sp (t := (c, 0, word.length)) (by have := hW.up c hc; show c < _; omega)).ok
      rcases hb3 with rfl | rfl <;> rcases hb6 with rfl | rfl
      all_goals
        refine ev_ ⟨G, c, word, rfl, rfl, rfl, hW, by omega, hc, fun hg => ?_, fun d hv => ?_⟩
        · refine ev_ ⟨by omega, .inr ⟨okc, okL⟩, ?_⟩
          rw [show D.tup [D.str [c], D.int 0, D.int (word.length : Nat)] = encS (c, 0, word.length) from rfl, any_sp]
          rw [decide_eq_false fun h => hg ((hmem _ Iff.rfl).mp (decide_eq_true h))]
          refine ev_ ⟨G, c, word, rfl, rfl, rfl, hW, by omega, hc, ?_⟩
          rw [decide_eq_false hg]
          exact ev_ ⟨sam_self trivial, _, _, _, _, _, _, _, _, hx, (by first | exact .inr rfl | exact .inl rfl), (by first | exact .inr rfl | exact .inl rfl), rfl⟩
        · have h24 : G.length * (word.length + 1) ≤ 29 := by
            have := Nat.mul_le_mul hW.few (show word.length + 1 ≤ 6 by omega)
            omega
          have hv29 : VT G 29 d c word := ⟨hv.1.le h24, hv.2⟩
          obtain ⟨tv, hT, hs, hwd⟩ := hv29.tv hL
          obtain ⟨m', q, qs, _, hq, rfl, hqs⟩ := hv29.inv
          refine ev_ ⟨by omega, .inr ⟨okc, okL⟩, ?_⟩
          rw [show D.tup [D.str [c], D.int 0, D.int (word.length : Nat)] = encS (c, 0, word.length) from rfl, any_sp]
          rw [(hmem (Gr G [c] word) Iff.rfl).mpr hv.1.gr]
          refine ev_ ⟨G, c, word, rfl, rfl, rfl, hW, by omega, hc, ?_⟩
          rw [decide_eq_true hv.1.gr]
          refine ev_ ⟨sam_self trivial, ⟨G, rfl, hW, tv, ?_⟩⟩
          rw [hT]
          refine ev_ ?_
          refine ev_iteN (fun e => absurd rfl e) (fun _ => ?_)
          refine ev_ ⟨G, tv, hT, by rw [hwd]; omega, ?_⟩
          rw [hwd]
          refine ev_ ?_
          refine ev_iteN (fun e => absurd rfl e) (fun _ => ?_)
          refine ev_ ⟨G, tv, hT, by rw [hwd]; omega, ?_⟩
          rw [hwd]
          refine ev_ ?_
          refine ev_iteN (fun e => absurd rfl e) (fun _ => ?_)
          have jd : ∀ w, jdg G c w (.tup [.str [c], .tup qs]) = decide (word = w) := fun w => by
            unfold jdg
            rw [hT, hs, hwd, decide_eq_true rfl]; rfl
          refine ev_ ⟨G, c, word, rfl, rfl, rfl, hW, tv, (fun _ => by rw [hwd]; omega), ?_⟩
          rw [jd, decide_eq_true rfl]
          refine ev_ ⟨hx, 29, G, c, word, rfl, by omega, hL, hv29, fun bent x2 tvb hbw hx2 => ?_⟩
          refine ev_ ⟨G, rfl, hW, tvb, ?_⟩
          have hwb : isT G 30 bent = true → (wdD 30 bent).length ≤ 1000 := fun e => by have := hbw G e; omega
          have hne : decide (word = word ++ [97]) = false := decide_eq_false fun e => by
            have := congrArg List.length e
            rw [List.length_append] at this
            simp at this
          cases e : isT G 30 bent with
          | false =>
            have jb : jdg G c word bent = false := by unfold jdg; rw [e]; rfl
            refine ev_ ⟨G, c, word, rfl, rfl, rfl, hW, tvb, hwb, ?_⟩
            rw [jb]
            refine ev_ ⟨sam_self trivial, by show _ + 1 ≤ _; omega, G, c, word ++ [97], rfl, rfl, rfl, hW, tv, (fun _ => by rw [hwd]; omega), ?_⟩
            rw [jd, hne]
            exact ev_ ⟨_, _, _, _, _, _, _, _, hx2, (by first | exact .inr rfl | exact .inl rfl), (by first | exact .inr rfl | exact .inl rfl), rfl⟩
          | true =>
            obtain ⟨m3, h3, ps3, _, rfl⟩ := sgn_tree e
            refine ev_ ?_
            refine ev_ite (fun e2 => ?_) (fun e2 => ?_)
            · cases e2
              have jb : jdg G c word (.tup [.str [c], .tup ps3]) = decide (wdD 30 (.tup [.str [c], .tup ps3]) = word) := by
                unfold jdg
                rw [e, show sgn (.tup [.str [c], .tup ps3]) = [c] from rfl, decide_eq_true rfl]; rfl
              refine ev_ ⟨G, tvb, e, hwb e, ?_⟩
              refine ev_ ⟨G, c, word, rfl, rfl, rfl, hW, tvb, hwb, ?_⟩
              rw [jb]
              refine ev_ ⟨sam_self trivial, by show _ + 1 ≤ _; omega, G, c, word ++ [97], rfl, rfl, rfl, hW, tv, (fun _ => by rw [hwd]; omega), ?_⟩
              rw [jd, hne]
              exact ev_ ⟨_, _, _, _, _, _, _, _, hx2, (by first | exact .inr rfl | exact .inl rfl), (by first | exact .inr rfl | exact .inl rfl), rfl⟩
            · have jb : jdg G c word (.tup [.str [h3], .tup ps3]) = false := by
                unfold jdg
                rw [e, show sgn (.tup [.str [h3], .tup ps3]) = [h3] from rfl, decide_eq_false e2]; rfl
              refine ev_ ⟨G, c, word, rfl, rfl, rfl, hW, tvb, hwb, ?_⟩
              rw [jb]
              refine ev_ ⟨sam_self trivial, by show _ + 1 ≤ _; omega, G, c, word ++ [97], rfl, rfl, rfl, hW, tv, (fun _ => by rw [hwd]; omega), ?_⟩
              rw [jd, hne]
              exact ev_ ⟨_, _, _, _, _, _, _, _, hx2, (by first | exact .inr rfl | exact .inl rfl), (by first | exact .inr rfl | exact .inl rfl), rfl⟩
    · rintro E ⟨x, b3, b6, z7, z8, z9, z10, z11, hx, hb3, hb6, rfl⟩
      exact ⟨x, b3, _, _, _, _, _, _, _, _, hx, hb3, rfl⟩
  · rintro E ⟨x, b3, z4, z5, z6, z7, z8, z9, z10, z11, hx, hb3, rfl⟩
    rcases hb3 with rfl | rfl
    · exact ev_ ⟨sam_self (cpy_gD hW 5), kk⟩
    · exact ev_ ⟨sam_self (cpy_gD hW 5), kk⟩
end PW.K68

set_option Elab.async false
set_option linter.all false
set_option autoImplicit false
set_option maxRecDepth 100000
set_option maxHeartbeats 4000000
namespace PW.K68
open PySem PySem.Spec PyProof.Rows L2 PW
/-! ### the text -/
def top (i : Nat) : Stmt := PySem.Challenge.pw_growth_k68_whole_words_that_grow_with_tr.main.body.getD i (.Pass ⟨0, 0, 0, 0⟩)
abbrev s_spans : Stmt := top 1
abbrev s_ends_of : Stmt := top 2
abbrev s_tree : Stmt := top 3
abbrev s_grows : Stmt := top 4
abbrev s_word_of : Stmt := top 5
abbrev s_is_tree : Stmt := top 8
abbrev s_judge_tree : Stmt := top 9
abbrev s__law_mixed : Stmt := top 11
abbrev s__law_rest : Stmt := top 12
abbrev s__law_pool : Stmt := top 13
abbrev s__law_next : Stmt := top 14
abbrev s__law_draw : Stmt := top 15
abbrev s__law_pick : Stmt := top 16
abbrev s__law_same : Stmt := top 17
abbrev s__law_copied : Stmt := top 18
abbrev s__law_different : Stmt := top 19
abbrev s__law_grammar_drawn : Stmt := top 20
abbrev s__law_spans : Stmt := top 21
abbrev s__law_is_tree : Stmt := top 22
abbrev s__law_word_of : Stmt := top 23
abbrev s__law_bent : Stmt := top 24
abbrev s_law : Stmt := top 25
structure Tx (K : PySem.W.Frag) (mg : Str → Option Value) : Prop where
  z_all : mg "all" = none
  z_bool : mg "bool" = none
  z_dict : mg "dict" = none
  z_int : mg "int" = none
  z_isinstance : mg "isinstance" = none
  z_len : mg "len" = none
  z_list : mg "list" = none
  z_range : mg "range" = none
  z_sorted : mg "sorted" = none
  z_str : mg "str" = none
  z_tuple : mg "tuple" = none
  g_LETTERS : ∃ t, mg "LETTERS" = some (.str "abcdefghijklmnopqrstuvwxyz" t)
  d_spans : Df K mg "spans" s_spans ["grammar", "word"]
  d_ends_of : Df K mg "ends_of" s_ends_of ["grammar", "found", "told"]
  d_tree : Df K mg "tree" s_tree ["grammar", "head", "word"]
  d_grows : Df K mg "grows" s_grows ["grammar", "head", "word"]
  d_word_of : Df K mg "word_of" s_word_of ["told"]
  d_is_tree : Df K mg "is_tree" s_is_tree ["grammar", "value"]
  d_judge_tree : Df K mg "judge_tree" s_judge_tree ["grammar", "head", "word", "value"]
  d__law_mixed : Df K mg "_law_mixed" s__law_mixed ["number", "place"]
  d__law_rest : Df K mg "_law_rest" s__law_rest ["script", "place", "fills"]
  d__law_pool : Df K mg "_law_pool" s__law_pool ["script"]
  d__law_next : Df K mg "_law_next" s__law_next ["pool"]
  d__law_draw : Df K mg "_law_draw" s__law_draw ["pool", "limit"]
  d__law_pick : Df K mg "_law_pick" s__law_pick ["pool", "options"]
  d__law_same : Df K mg "_law_same" s__law_same ["answer", "due"]
  d__law_copied : Df K mg "_law_copied" s__law_copied ["value"]
  d__law_different : Df K mg "_law_different" s__law_different ["items"]
  d__law_grammar_drawn : Df K mg "_law_grammar_drawn" s__law_grammar_drawn ["pool", "most"]
  d__law_spans : Df K mg "_law_spans" s__law_spans ["grammar", "word"]
  d__law_is_tree : Df K mg "_law_is_tree" s__law_is_tree ["grammar", "value"]
  d__law_word_of : Df K mg "_law_word_of" s__law_word_of ["told"]
  d__law_bent : Df K mg "_law_bent" s__law_bent ["pool", "told"]
  d_law : Df K mg "law" s_law ["script"]
section
variable {P : Program} {w : World} {K : PySem.W.Frag} {mg : Str → Option Value} {base : Heap}
theorem sc_ends_of : FnScope ["grammar", "found", "told", "word", "sprout", "first", "rows", "sign", "longer", "place", "parts", "last"] ["grammar", "found", "told"] (defScope s_ends_of) := ⟨rfl, rfl, rfl, by decide +kernel, rfl, by decide +kernel, by decide +kernel⟩
theorem dr_ends_of {f : Addr} (T : Tx K mg) : DerOk P w K mg base ["grammar", "found", "told", "word", "sprout", "first", "rows", "sign", "longer", "place", "parts", "last"] "ends_of" s_ends_of f 0 w_ends_of := fun cdv A outer s H E hr => (bd_cons (sd_asg (ed_v 2) (gd_t rfl (gsd_c (gd_n (i := 3) sc_ends_of.nd rfl (by first | exact Or.inl rfl | exact Or.inr rfl)) (gsd_c (gd_n (i := 4) sc_ends_of.nd rfl (by first | exact Or.inl rfl | exact Or.inr rfl)) (gsd_c (gd_n (i := 5) sc_ends_of.nd rfl (by first | exact Or.inl rfl | exact Or.inr rfl)) gsd_n)))))
  (bd_cons (sd_set (i := 6) sc_ends_of.nd rfl (by first | exact Or.inl rfl | exact Or.inr rfl) (ed_lst (ad_c (ed_tup (ad_c (ed_v 5) (ad_c (ed_tup ad_n) ad_n))) ad_n)))
  (bd_cons (sd_for PassesOwn.never rfl (id_s (ed_v 4)) (gd_n (i := 7) sc_ends_of.nd rfl (by first | exact Or.inl rfl | exact Or.inr rfl)) (bd_cons (sd_set (i := 8) sc_ends_of.nd rfl (by first | exact Or.inl rfl | exact Or.inr rfl) ed_dct0)
  (bd_cons (sd_for PassesOwn.never rfl (id_s (ed_v 6)) (gd_t rfl (gsd_c (gd_n (i := 9) sc_ends_of.nd rfl (by first | exact Or.inl rfl | exact Or.inr rfl)) (gsd_c (gd_n (i := 10) sc_ends_of.nd rfl (by first | exact Or.inl rfl | exact Or.inr rfl)) gsd_n))) (bd_one (sd_if (td_cmp (op_ninAll (rm65 hr)) k_nin (by rfl) (od_v 7) (od_v 0)) (bd_one (sd_if (td_cmp (op_eqG (rm64 hr)) k_eq (nomark _) (od_e (ed_slice (od_v 3) (pd_s (ed_v 9)) (pd_s (ed_op op_addAll k_add (od_v 9) (od_e ed_int))))) (od_v 7)) (bd_one (sd_expr (ed_setd (pv 8) (ed_op op_addAll k_add (od_v 9) (od_e ed_int)) (ed_op op_addAll k_add (od_v 10) (od_e (ed_tup (ad_c (ed_v 7) ad_n))))))) bd_nil)) (bd_one (sd_for PassesOwn.never rfl (id_r2 rfl T.z_range (ed_v 9) (ed_op op_addAll k_add (od_e (ed_call1 call_lenAll k_len rfl T.z_len (by decide +kernel) (od_v 3))) (od_e ed_int))) (gd_n (i := 11) sc_ends_of.nd rfl (by first | exact Or.inl rfl | exact Or.inr rfl)) (bd_one (sd_if (td_cmp (op_inAll (rm65 hr)) k_in (by rfl) (od_e (ed_tup (ad_c (ed_v 7) (ad_c (ed_v 9) (ad_c (ed_v 11) ad_n))))) (od_v 1)) (bd_one (sd_expr (ed_setd (pv 8) (ed_v 11) (ed_op op_addAll k_add (od_v 10) (od_e (ed_tup (ad_c (ed_ix (rm1 hr) (od_v 1) (od_e (ed_tup (ad_c (ed_v 7) (ad_c (ed_v 9) (ad_c (ed_v 11) ad_n))))) (by intro o i; rfl)) ad_n))))))) bd_nil)))))))
  (bd_one (by first | exact sd_setLc (i := 6) (vs := [9]) rfl sc_ends_of.nd rfl rfl rfl (sw_true rfl rfl rfl (by decide +kernel)) (id_s (ed_call1 (cr_sortKG rfl (rm70 hr)) k_sortKG rfl T.z_sorted (by decide +kernel) (od_v 8))) (own := [("place", 9)]) (blkOk_by (own := [("place", 9)]) (N := ["grammar", "found", "told", "word", "sprout", "first", "rows", "sign", "longer", "place", "parts", "last"]) (sc := defScope s_ends_of) (by decide +kernel)) (fun _ _ _ _ _ => (gvd_n (i := 9) sc_ends_of.nd (by decide) rfl (by first | exact Or.inl rfl | exact Or.inr rfl))) (fun _ _ _ _ _ => tsd_n) (fun _ _ _ _ _ => (ed_tup (ad_c (ed_v 9) (ad_c (ed_ix (rm1 hr) (od_v 8) (od_v 9) (by intro o i; rfl)) ad_n)))) | exact sd_set (i := 6) sc_ends_of.nd rfl (by first | exact Or.inl rfl | exact Or.inr rfl) (ed_lc (vs := [9]) rfl sc_ends_of.nd rfl (id_s (ed_call1 (cr_sortKG rfl (rm70 hr)) k_sortKG rfl T.z_sorted (by decide +kernel) (od_v 8))) (own := [("place", 9)]) (blkOk_by (own := [("place", 9)]) (N := ["grammar", "found", "told", "word", "sprout", "first", "rows", "sign", "longer", "place", "parts", "last"]) (sc := defScope s_ends_of) (by decide +kernel)) (fun _ _ _ _ _ => (gvd_n (i := 9) sc_ends_of.nd (by decide) rfl (by first | exact Or.inl rfl | exact Or.inr rfl))) (fun _ _ _ _ _ => tsd_n) (fun _ _ _ _ _ => (ed_tup (ad_c (ed_v 9) (ad_c (ed_ix (rm1 hr) (od_v 8) (od_v 9) (by intro o i; rfl)) ad_n))))))))))
  (bd_one (sd_ret (ed_m 6))))))
theorem c_ends_of (T : Tx K mg) : CL P w K mg base 1 "ends_of" 1 (fs3 f_ends_of) := cf_of T.d_ends_of fun f fd F => okL3_1 F sc_ends_of (by decide) (dr_ends_of T) law_ends_of
theorem sc_spans : FnScope ["grammar", "word", "found", "changed", "head", "sprout", "first", "last", "parts"] ["grammar", "word"] (defScope s_spans) := ⟨rfl, rfl, rfl, by decide +kernel, rfl, by decide +kernel, by decide +kernel⟩
theorem dr_spans {f : Addr} (T : Tx K mg) : DerOk P w K mg base ["grammar", "word", "found", "changed", "head", "sprout", "first", "last", "parts"] "spans" s_spans f 1 w_spans := fun cdv A outer s H E hr => (bd_cons (sd_set (i := 2) sc_spans.nd rfl (by first | exact Or.inl rfl | exact Or.inr rfl) ed_dctT)
  (bd_cons (sd_set (i := 3) sc_spans.nd rfl (by first | exact Or.inl rfl | exact Or.inr rfl) ed_bl)
  (bd_cons (sd_while PassesOwn.never (td_tru (od_v 3)) (bd_cons (sd_set (i := 3) sc_spans.nd rfl (by first | exact Or.inl rfl | exact Or.inr rfl) ed_bl)
  (bd_one (sd_for PassesOwn.never rfl (id_s (ed_call1 (cr_sortK rfl (rm70 hr)) k_sortK rfl T.z_sorted (by decide +kernel) (od_v 0))) (gd_n (i := 4) sc_spans.nd rfl (by first | exact Or.inl rfl | exact Or.inr rfl)) (bd_one (sd_for PassesOwn.never rfl (id_s (ed_ix (rm1 hr) (od_v 0) (od_v 4) (by intro o i; rfl))) (gd_n (i := 5) sc_spans.nd rfl (by first | exact Or.inl rfl | exact Or.inr rfl)) (bd_one (sd_for PassesOwn.never rfl (id_r1 rfl T.z_range (ed_op op_addAll k_add (od_e (ed_call1 call_lenAll k_len rfl T.z_len (by decide +kernel) (od_v 1))) (od_e ed_int))) (gd_n (i := 6) sc_spans.nd rfl (by first | exact Or.inl rfl | exact Or.inr rfl)) (bd_one (sd_for PassesOwn.never rfl (id_s (ed_l (c_ends_of T) (hr.mono (by decide)) rfl (al_s (ed_v 0) (al_0 (pv 2) (ad_c (ed_tup (ad_c (ed_v 1) (ad_c (ed_v 5) (ad_c (ed_v 6) ad_n)))) ad_n))))) (gd_t rfl (gsd_c (gd_n (i := 7) sc_spans.nd rfl (by first | exact Or.inl rfl | exact Or.inr rfl)) (gsd_c (gd_n (i := 8) sc_spans.nd rfl (by first | exact Or.inl rfl | exact Or.inr rfl)) gsd_n))) (bd_one (sd_if (td_cmp (op_ninAll (rm65 hr)) k_nin (by rfl) (od_e (ed_tup (ad_c (ed_v 4) (ad_c (ed_v 6) (ad_c (ed_v 7) ad_n))))) (od_v 2)) (bd_cons (sd_sub (rm1 hr) (pv 2) (ed_tup (ad_c (ed_v 4) (ad_c (ed_v 6) (ad_c (ed_v 7) ad_n)))) (ed_tup (ad_c (ed_v 4) (ad_c (ed_v 8) ad_n))))
  (bd_one (sd_set (i := 3) sc_spans.nd rfl (by first | exact Or.inl rfl | exact Or.inr rfl) ed_bl))) bd_nil))))))))))))
  (bd_one (sd_ret (ed_m 2))))))
theorem c_spans (T : Tx K mg) : CF P w K mg base 2 "spans" (fs2 f_spans) := cf_of T.d_spans fun f fd F => okF2 F sc_spans (by decide) (dr_spans T) law_spans
theorem sc_tree : FnScope ["grammar", "head", "word"] ["grammar", "head", "word"] (defScope s_tree) := ⟨rfl, rfl, rfl, by decide +kernel, rfl, by decide +kernel, by decide +kernel⟩
theorem dr_tree {f : Addr} (T : Tx K mg) : DerOk P w K mg base ["grammar", "head", "word"] "tree" s_tree f 2 w_tree := fun cdv A outer s H E hr => (bd_one (sd_ret (ed_get1 (rm1 hr) (od_e (ed_f (c_spans T) (hr.mono (by decide)) rfl (ad_c (ed_v 0) (ad_c (ed_v 2) ad_n)))) (od_e (ed_tup (ad_c (ed_v 1) (ad_c ed_int (ad_c (ed_call1 call_lenAll k_len rfl T.z_len (by decide +kernel) (od_v 2)) ad_n))))))))
theorem c_tree (T : Tx K mg) : CF P w K mg base 3 "tree" (fs3 f_tree) := cf_of T.d_tree fun f fd F => okF3 F sc_tree (by decide) (dr_tree T) law_tree
theorem sc_grows : FnScope ["grammar", "head", "word"] ["grammar", "head", "word"] (defScope s_grows) := ⟨rfl, rfl, rfl, by decide +kernel, rfl, by decide +kernel, by decide +kernel⟩
theorem dr_grows {f : Addr} (T : Tx K mg) : DerOk P w K mg base ["grammar", "head", "word"] "grows" s_grows f 3 w_grows := fun cdv A outer s H E hr => (bd_one (sd_ret (ed_cmp op_notN k_notN (nomark _) (od_e (ed_f (c_tree T) (hr.mono (by decide)) rfl (ad_c (ed_v 0) (ad_c (ed_v 1) (ad_c (ed_v 2) ad_n))))) (od_e ed_non))))
theorem c_grows (T : Tx K mg) : CF P w K mg base 4 "grows" (fs3 f_grows) := cf_of T.d_grows fun f fd F => okF3 F sc_grows (by decide) (dr_grows T) law_grows
theorem sc_word_of : FnScope ["told", "part"] ["told"] (defScope s_word_of) := ⟨rfl, rfl, rfl, by decide +kernel, rfl, by decide +kernel, by decide +kernel⟩
theorem dr_word_of {f : Addr} (T : Tx K mg) {n : Nat} {self : FS} (rc : CF P w K mg base (n + 0) "word_of" self) : DerOk P w K mg base ["told", "part"] "word_of" s_word_of f (n + 0) (w_word_of self) := fun cdv A outer s H E hr0 => have hr := hr0; (bd_one (sd_ret (ed_mt1 PySem.F.plainAttrs_str PySem.F.slot_str_join PySem.F.type_str_join mt_join k_join (od_e (ed_str (l := []) (by decide +kernel))) (od_e (ed_lc (vs := [1]) rfl sc_word_of.nd rfl (id_s (ed_ix (rm1 hr) (od_v 0) (od_e ed_int) (by intro o i; rfl))) (own := [("part", 1)]) (blkOk_by (own := [("part", 1)]) (N := ["told", "part"]) (sc := defScope s_word_of) (by decide +kernel)) (fun _ _ _ _ _ => (gvd_n (i := 1) sc_word_of.nd (by decide) rfl (by first | exact Or.inl rfl | exact Or.inr rfl))) (fun _ _ _ _ _ => tsd_n) (fun _ _ _ _ _ => (ed_if (td_v (ed_isi isi_str rfl T.z_isinstance (by decide +kernel) rfl T.z_str (by decide +kernel) (od_v 1))) (ed_v 1) (ed_f rc hr rfl (ad_c (ed_v 1) ad_n)))))))))
theorem cn_word_of (T : Tx K mg) : ∀ n : Nat, CF P w K mg base (n + 0) "word_of" (fs1 (f_word_of n))
  | 0 => cf_none T.d_word_of (spF_none fun ds Pp h => rec0_word_of ds Pp h)
  | n + 1 => (show CFn P w K mg base (n + 0 + 1) "word_of" _ from cf_of T.d_word_of fun f fd F => okF1 F sc_word_of (by decide) (dr_word_of T (cn_word_of T n)) (law_word_of n)).mono (by omega)
theorem c_word_of (T : Tx K mg) : CF P w K mg base 30 "word_of" (fs1 (f_word_of 30)) := (cn_word_of T 30).mono (by decide)
theorem sc_is_tree : FnScope ["grammar", "value", "signs", "part"] ["grammar", "value"] (defScope s_is_tree) := ⟨rfl, rfl, rfl, by decide +kernel, rfl, by decide +kernel, by decide +kernel⟩
theorem dr_is_tree {f : Addr} (T : Tx K mg) {n : Nat} {self : FS} (rc : CF P w K mg base (n + 0) "is_tree" self) : DerOk P w K mg base ["grammar", "value", "signs", "part"] "is_tree" s_is_tree f (n + 0) (w_is_tree self) := fun cdv A outer s H E hr0 => have hr := hr0; (bd_cons (sd_if (td_w (wd_or (td_not (td_v (ed_isi isi_tuple rfl T.z_isinstance (by decide +kernel) rfl T.z_tuple (by decide +kernel) (od_v 1)))) (wd_or (td_cmp (op_neG (rm64 hr)) k_ne (nomark _) (od_e (ed_call1 call_lenAll k_len rfl T.z_len (by decide +kernel) (od_v 1))) (od_e ed_int)) (wd_or (td_not (td_v (ed_isi isi_str rfl T.z_isinstance (by decide +kernel) rfl T.z_str (by decide +kernel) (od_e (ed_ix (rm1 hr) (od_v 1) (od_e ed_int) (by intro o i; rfl)))))) (wd_or1 (td_cmp (op_ninAll (rm65 hr)) k_nin (by rfl) (od_e (ed_ix (rm1 hr) (od_v 1) (od_e ed_int) (by intro o i; rfl))) (od_v 0))))))) (bd_one (sd_ret ed_bl)) bd_nil)
  (bd_cons (sd_if (td_not (td_v (ed_isi isi_tuple rfl T.z_isinstance (by decide +kernel) rfl T.z_tuple (by decide +kernel) (od_e (ed_ix (rm1 hr) (od_v 1) (od_e ed_int) (by intro o i; rfl)))))) (bd_one (sd_ret ed_bl)) bd_nil)
  (bd_cons (sd_set (i := 2) sc_is_tree.nd rfl (by first | exact Or.inl rfl | exact Or.inr rfl) (ed_str (l := []) (by decide +kernel)))
  (bd_cons (sd_for PassesOwn.never rfl (id_s (ed_ix (rm1 hr) (od_v 1) (od_e ed_int) (by intro o i; rfl))) (gd_n (i := 3) sc_is_tree.nd rfl (by first | exact Or.inl rfl | exact Or.inr rfl)) (bd_one (sd_if (td_w (wd_and (td_v (ed_isi isi_str rfl T.z_isinstance (by decide +kernel) rfl T.z_str (by decide +kernel) (od_v 3))) (wd_and (td_cmp (op_eqG (rm64 hr)) k_eq (nomark _) (od_e (ed_call1 call_lenAll k_len rfl T.z_len (by decide +kernel) (od_v 3))) (od_e ed_int)) (wd_and1 (td_cmp (op_inAll (rm65 hr)) k_in (by rfl) (od_v 3) (od_e (ed_gstr rfl T.g_LETTERS (by decide +kernel)))))))) (bd_one (sd_set (i := 2) sc_is_tree.nd rfl (by first | exact Or.inl rfl | exact Or.inr rfl) (ed_op op_addAll k_add (od_v 2) (od_v 3)))) (bd_one (sd_if (td_v (ed_f rc hr rfl (ad_c (ed_v 0) (ad_c (ed_v 3) ad_n)))) (bd_one (sd_set (i := 2) sc_is_tree.nd rfl (by first | exact Or.inl rfl | exact Or.inr rfl) (ed_op op_addAll k_add (od_v 2) (od_e (ed_ix (rm1 hr) (od_v 3) (od_e ed_int) (by intro o i; rfl)))))) (bd_one (sd_ret ed_bl)))))))
  (bd_one (sd_ret (ed_cmp (op_inAll (rm65 hr)) k_in (by rfl) (od_v 2) (od_e (ed_ix (rm1 hr) (od_v 0) (od_e (ed_ix (rm1 hr) (od_v 1) (od_e ed_int) (by intro o i; rfl))) (by intro o i; rfl))))))))))
theorem cn_is_tree (T : Tx K mg) : ∀ n : Nat, CF P w K mg base (n + 0) "is_tree" (fs2 (f_is_tree n))
  | 0 => cf_none T.d_is_tree (spF_none fun ds Pp h => rec0_is_tree ds Pp h)
  | n + 1 => (show CFn P w K mg base (n + 0 + 1) "is_tree" _ from cf_of T.d_is_tree fun f fd F => okF2 F sc_is_tree (by decide) (dr_is_tree T (cn_is_tree T n)) (law_is_tree n)).mono (by omega)
theorem c_is_tree (T : Tx K mg) : CF P w K mg base 30 "is_tree" (fs2 (f_is_tree 30)) := (cn_is_tree T 30).mono (by decide)
theorem sc_judge_tree : FnScope ["grammar", "head", "word", "value"] ["grammar", "head", "word", "value"] (defScope s_judge_tree) := ⟨rfl, rfl, rfl, by decide +kernel, rfl, by decide +kernel, by decide +kernel⟩
theorem dr_judge_tree {f : Addr} (T : Tx K mg) : DerOk P w K mg base ["grammar", "head", "word", "value"] "judge_tree" s_judge_tree f 30 w_judge_tree := fun cdv A outer s H E hr => (bd_one (sd_ret (ed_and (ed_f (c_is_tree T) (hr.mono (by decide)) rfl (ad_c (ed_v 0) (ad_c (ed_v 3) ad_n))) (ed_and (ed_cmp (op_eqG (rm64 hr)) k_eq (nomark _) (od_e (ed_ix (rm1 hr) (od_v 3) (od_e ed_int) (by intro o i; rfl))) (od_v 1)) (ed_one (ed_cmp (op_eqG (rm64 hr)) k_eq (nomark _) (od_e (ed_f (c_word_of T) (hr.mono (by decide)) rfl (ad_c (ed_v 3) ad_n))) (od_v 2)))))))
theorem c_judge_tree (T : Tx K mg) : CF P w K mg base 31 "judge_tree" (fs4 f_judge_tree) := cf_of T.d_judge_tree fun f fd F => okF4 F sc_judge_tree (by decide) (dr_judge_tree T) law_judge_tree
theorem sc__law_mixed : FnScope ["number", "place", "first", "second", "third"] ["number", "place"] (defScope s__law_mixed) := ⟨rfl, rfl, rfl, by decide +kernel, rfl, by decide +kernel, by decide +kernel⟩
theorem dr__law_mixed {f : Addr} (T : Tx K mg) : DerOk P w K mg base ["number", "place", "first", "second", "third"] "_law_mixed" s__law_mixed f 0 w__law_mixed := fun cdv A outer s H E hr => (bd_cons (sd_set (i := 2) sc__law_mixed.nd rfl (by first | exact Or.inl rfl | exact Or.inr rfl) (ed_op op_mod k_mod (od_e (ed_callT1 call_int1 k_int rfl T.z_int (by decide +kernel) (od_e (ed_op op_addAll k_add (od_e (ed_op op_addAll k_add (od_e (ed_op op_mulG k_mulG (od_v 0) (od_e ed_int))) (od_e (ed_op op_mulG k_mulG (od_v 1) (od_e ed_int))))) (od_e ed_int))))) (od_e ed_int)))
  (bd_cons (sd_set (i := 3) sc__law_mixed.nd rfl (by first | exact Or.inl rfl | exact Or.inr rfl) (ed_op op_mod k_mod (od_e (ed_callT1 call_int1 k_int rfl T.z_int (by decide +kernel) (od_e (ed_op op_addAll k_add (od_e (ed_op op_addAll k_add (od_e (ed_op op_mulG k_mulG (od_v 2) (od_v 2))) (od_e (ed_op op_mulG k_mulG (od_e ed_int) (od_v 2))))) (od_v 1))))) (od_e ed_int)))
  (bd_cons (sd_set (i := 4) sc__law_mixed.nd rfl (by first | exact Or.inl rfl | exact Or.inr rfl) (ed_op op_mod k_mod (od_e (ed_callT1 call_int1 k_int rfl T.z_int (by decide +kernel) (od_e (ed_op op_addAll k_add (od_e (ed_op op_mulG k_mulG (od_v 3) (od_v 3))) (od_v 2))))) (od_e ed_int)))
  (bd_one (sd_ret (ed_op op_addAll k_add (od_e (ed_op op_mulG k_mulG (od_v 3) (od_e ed_int))) (od_v 4)))))))
theorem c__law_mixed (T : Tx K mg) : CF P w K mg base 1 "_law_mixed" (fs2 f__law_mixed) := cf_of T.d__law_mixed fun f fd F => okF2 F sc__law_mixed (by decide) (dr__law_mixed T) law__law_mixed
theorem sc__law_rest : FnScope ["script", "place", "fills", "number"] ["script", "place", "fills"] (defScope s__law_rest) := ⟨rfl, rfl, rfl, by decide +kernel, rfl, by decide +kernel, by decide +kernel⟩
theorem dr__law_rest {f : Addr} (T : Tx K mg) : DerOk P w K mg base ["script", "place", "fills", "number"] "_law_rest" s__law_rest f 1 w__law_rest := fun cdv A outer s H E hr => (bd_cons (sd_set (i := 3) sc__law_rest.nd rfl (by first | exact Or.inl rfl | exact Or.inr rfl) ed_int)
  (bd_consJ (sd_if (td_cmp (op_gtG (rm64 hr)) k_gt (nomark _) (od_e (ed_call1 call_lenAll k_len rfl T.z_len (by decide +kernel) (od_v 0))) (od_e ed_int)) (bd_one (sd_set (i := 3) sc__law_rest.nd rfl (by first | exact Or.inl rfl | exact Or.inr rfl) (ed_callT1 call_int1 k_int rfl T.z_int (by decide +kernel) (od_e (ed_ix (rm1 hr) (od_v 0) (od_e (ed_op op_mod k_mod (od_e (ed_callT1 call_int1 k_int rfl T.z_int (by decide +kernel) (od_v 1))) (od_e (ed_call1 call_lenAll k_len rfl T.z_len (by decide +kernel) (od_v 0))))) (by intro o i; rfl)))))) bd_nil)
  (bd_consJ (sd_if (td_cmp (op_ltG (rm64 hr)) k_lt (nomark _) (od_v 3) (od_e ed_int)) (bd_one (sd_set (i := 3) sc__law_rest.nd rfl (by first | exact Or.inl rfl | exact Or.inr rfl) (ed_op op_sub k_sub (od_e ed_int) (od_e (ed_op op_mulG k_mulG (od_e ed_int) (od_v 3)))))) bd_nil)
  (bd_consJ (sd_if (td_w (wd_and (td_cmp (op_eqG (rm64 hr)) k_eq (nomark _) (od_v 2) (od_e ed_int)) (wd_and (td_cmp (op_ltG (rm64 hr)) k_lt (nomark _) (od_v 1) (od_e (ed_call1 call_lenAll k_len rfl T.z_len (by decide +kernel) (od_v 0)))) (wd_and1 (td_cmp (op_geG (rm64 hr)) k_ge (nomark _) (od_v 3) (od_e (ed_op op_pow k_pow (od_e ed_int) (od_e ed_int)))))))) (bd_one (sd_ret (ed_op op_sub k_sub (od_v 3) (od_e (ed_op op_pow k_pow (od_e ed_int) (od_e ed_int)))))) bd_nil)
  (bd_one (sd_ret (ed_f (c__law_mixed T) (hr.mono (by decide)) rfl (ad_c (ed_op op_addAll k_add (od_v 3) (od_e (ed_op op_mulG k_mulG (od_v 2) (od_e ed_int)))) (ad_c (ed_v 1) ad_n)))))))))
theorem c__law_rest (T : Tx K mg) : CF P w K mg base 2 "_law_rest" (fs3 f__law_rest) := cf_of T.d__law_rest fun f fd F => okF3 F sc__law_rest (by decide) (dr__law_rest T) law__law_rest
theorem sc__law_pool : FnScope ["script"] ["script"] (defScope s__law_pool) := ⟨rfl, rfl, rfl, by decide +kernel, rfl, by decide +kernel, by decide +kernel⟩
theorem dr__law_pool {f : Addr} (T : Tx K mg) : DerOk P w K mg base ["script"] "_law_pool" s__law_pool f 2 w__law_pool := fun cdv A outer s H E hr => (bd_one (sd_ret (ed_lst (ad_c (ed_v 0) (ad_c ed_int (ad_c (ed_f (c__law_rest T) (hr.mono (by decide)) rfl (ad_c (ed_v 0) (ad_c ed_int (ad_c ed_int ad_n)))) (ad_c ed_int ad_n)))))))
theorem c__law_pool (T : Tx K mg) : CF P w K mg base 3 "_law_pool" (fs1 f__law_pool) := cf_of T.d__law_pool fun f fd F => okF1 F sc__law_pool (by decide) (dr__law_pool T) law__law_pool
theorem sc__law_next : FnScope ["pool"] ["pool"] (defScope s__law_next) := ⟨rfl, rfl, rfl, by decide +kernel, rfl, by decide +kernel, by decide +kernel⟩
theorem dr__law_next {f : Addr} (T : Tx K mg) : DerOk P w K mg base ["pool"] "_law_next" s__law_next f 2 w__law_next := fun cdv A outer s H E hr => (bd_cons (sd_sub (rm1 hr) (pv 0) ed_int (ed_op op_addAll k_add (od_e (ed_ix (rm1 hr) (od_v 0) (od_e ed_int) (by intro o i; rfl))) (od_e ed_int)))
  (bd_cons (sd_sub (rm1 hr) (pv 0) ed_int (ed_f (c__law_rest T) (hr.mono (by decide)) rfl (ad_c (ed_ix (rm1 hr) (od_v 0) (od_e ed_int) (by intro o i; rfl)) (ad_c (ed_ix (rm1 hr) (od_v 0) (od_e ed_int) (by intro o i; rfl)) (ad_c ed_int ad_n)))))
  (bd_one (sd_sub (rm1 hr) (pv 0) ed_int ed_int))))
theorem c__law_next (T : Tx K mg) : CP P w K mg base 3 "_law_next" (ps0 f__law_next) := cf_of T.d__law_next fun f fd F => okP0 F sc__law_next (by decide) (dr__law_next T) law__law_next
theorem sc__law_draw : FnScope ["pool", "limit", "value"] ["pool", "limit"] (defScope s__law_draw) := ⟨rfl, rfl, rfl, by decide +kernel, rfl, by decide +kernel, by decide +kernel⟩
theorem dr__law_draw {f : Addr} (T : Tx K mg) : DerOk P w K mg base ["pool", "limit", "value"] "_law_draw" s__law_draw f 2 w__law_draw := fun cdv A outer s H E hr => (bd_consJ (sd_if (td_cmp (op_leG (rm64 hr)) k_le (nomark _) (od_e (ed_ix (rm1 hr) (od_v 0) (od_e ed_int) (by intro o i; rfl))) (od_e ed_int)) (bd_cons (sd_sub (rm1 hr) (pv 0) ed_int (ed_op op_addAll k_add (od_e (ed_ix (rm1 hr) (od_v 0) (od_e ed_int) (by intro o i; rfl))) (od_e ed_int)))
  (bd_one (sd_sub (rm1 hr) (pv 0) ed_int (ed_f (c__law_rest T) (hr.mono (by decide)) rfl (ad_c (ed_ix (rm1 hr) (od_v 0) (od_e ed_int) (by intro o i; rfl)) (ad_c (ed_ix (rm1 hr) (od_v 0) (od_e ed_int) (by intro o i; rfl)) (ad_c (ed_ix (rm1 hr) (od_v 0) (od_e ed_int) (by intro o i; rfl)) ad_n))))))) bd_nil)
  (bd_cons (sd_set (i := 2) sc__law_draw.nd rfl (by first | exact Or.inl rfl | exact Or.inr rfl) (ed_op op_mod k_mod (od_e (ed_callT1 call_int1 k_int rfl T.z_int (by decide +kernel) (od_e (ed_ix (rm1 hr) (od_v 0) (od_e ed_int) (by intro o i; rfl))))) (od_v 1)))
  (bd_cons (sd_sub (rm1 hr) (pv 0) ed_int (ed_op op_fdA k_fdiv (od_e (ed_callT1 call_int1 k_int rfl T.z_int (by decide +kernel) (od_e (ed_ix (rm1 hr) (od_v 0) (od_e ed_int) (by intro o i; rfl))))) (od_v 1)))
  (bd_one (sd_ret (ed_m 2))))))
theorem c__law_draw (T : Tx K mg) : CP P w K mg base 3 "_law_draw" (ps1 f__law_draw) := cf_of T.d__law_draw fun f fd F => okP1 F sc__law_draw (by decide) (dr__law_draw T) law__law_draw
theorem sc__law_pick : FnScope ["pool", "options"] ["pool", "options"] (defScope s__law_pick) := ⟨rfl, rfl, rfl, by decide +kernel, rfl, by decide +kernel, by decide +kernel⟩
theorem dr__law_pick {f : Addr} (T : Tx K mg) : DerOk P w K mg base ["pool", "options"] "_law_pick" s__law_pick f 3 w__law_pick := fun cdv A outer s H E hr => (bd_one (sd_ret (ed_ix (rm1 hr) (od_v 1) (od_e (ed_p (c__law_draw T) (hr.mono (by decide)) rfl (pv 0) (ad_c (ed_call1 call_lenAll k_len rfl T.z_len (by decide +kernel) (od_v 1)) ad_n))) (by intro o i; rfl))))
theorem c__law_pick (T : Tx K mg) : CP P w K mg base 4 "_law_pick" (ps1 f__law_pick) := cf_of T.d__law_pick fun f fd F => okP1 F sc__law_pick (by decide) (dr__law_pick T) law__law_pick
theorem sc__law_same : FnScope ["answer", "due", "key", "k"] ["answer", "due"] (defScope s__law_same) := ⟨rfl, rfl, rfl, by decide +kernel, rfl, by decide +kernel, by decide +kernel⟩
theorem dr__law_same {f : Addr} (T : Tx K mg) {n : Nat} {self : FS} (rc : CF P w K mg base (n + 0) "_law_same" self) : DerOk P w K mg base ["answer", "due", "key", "k"] "_law_same" s__law_same f (n + 0) (w__law_same2 self) := fun cdv A outer s H E hr0 => have hr := hr0; (bd_cons (sd_if (td_v (ed_isi isi_dict rfl T.z_isinstance (by decide +kernel) rfl T.z_dict (by decide +kernel) (od_v 1))) (bd_cons (sd_if (td_w (wd_or (td_not (td_v (ed_isi isi_dict rfl T.z_isinstance (by decide +kernel) rfl T.z_dict (by decide +kernel) (od_v 0)))) (wd_or1 (td_cmp (op_neG (rm64 hr)) k_ne (nomark _) (od_e (ed_call1 call_lenAll k_len rfl T.z_len (by decide +kernel) (od_v 0))) (od_e (ed_call1 call_lenAll k_len rfl T.z_len (by decide +kernel) (od_v 1))))))) (bd_one (sd_ret ed_bl)) bd_nil)
  (bd_one (sd_ret (ed_call1 (cr_all rfl) k_all rfl T.z_all (by decide +kernel) (od_e (ed_lc (vs := [2]) rfl sc__law_same.nd rfl (id_s (ed_v 1)) (own := [("key", 2)]) (blkOk_by (own := [("key", 2)]) (N := ["answer", "due", "key", "k"]) (sc := defScope s__law_same) (by decide +kernel)) (fun _ _ _ _ _ => (gvd_n (i := 2) sc__law_same.nd (by decide) rfl (by first | exact Or.inl rfl | exact Or.inr rfl))) (fun _ _ _ _ _ => tsd_n) (fun _ _ _ _ _ => (ed_and (ed_cmp (op_inAll (rm65 hr)) k_in (by rfl) (od_v 2) (od_v 0)) (ed_one (ed_f rc hr rfl (ad_c (ed_ix (rm1 hr) (od_v 0) (od_v 2) (by intro o i; rfl)) (ad_c (ed_ix (rm1 hr) (od_v 1) (od_v 2) (by intro o i; rfl)) ad_n)))))))))))) bd_nil)
  (bd_cons (sd_if (td_w (wd_or (td_v (ed_isi isi_list rfl T.z_isinstance (by decide +kernel) rfl T.z_list (by decide +kernel) (od_v 1))) (wd_or1 (td_v (ed_isi isi_tuple rfl T.z_isinstance (by decide +kernel) rfl T.z_tuple (by decide +kernel) (od_v 1)))))) (bd_cons (sd_if (td_w (wd_or (td_cmp (op_neG (rm64 hr)) k_ne (nomark _) (od_e (ed_isi isi_list rfl T.z_isinstance (by decide +kernel) rfl T.z_list (by decide +kernel) (od_v 1))) (od_e (ed_isi isi_list rfl T.z_isinstance (by decide +kernel) rfl T.z_list (by decide +kernel) (od_v 0)))) (wd_or1 (td_cmp (op_neG (rm64 hr)) k_ne (nomark _) (od_e (ed_isi isi_tuple rfl T.z_isinstance (by decide +kernel) rfl T.z_tuple (by decide +kernel) (od_v 1))) (od_e (ed_isi isi_tuple rfl T.z_isinstance (by decide +kernel) rfl T.z_tuple (by decide +kernel) (od_v 0))))))) (bd_one (sd_ret ed_bl)) bd_nil)
  (bd_one (sd_ret (ed_and (ed_cmp (op_eqG (rm64 hr)) k_eq (nomark _) (od_e (ed_call1 call_lenAll k_len rfl T.z_len (by decide +kernel) (od_v 0))) (od_e (ed_call1 call_lenAll k_len rfl T.z_len (by decide +kernel) (od_v 1)))) (ed_one (ed_call1 (cr_all rfl) k_all rfl T.z_all (by decide +kernel) (od_e (ed_lc (vs := [3]) rfl sc__law_same.nd rfl (id_r1 rfl T.z_range (ed_call1 call_lenAll k_len rfl T.z_len (by decide +kernel) (od_v 1))) (own := [("k", 3)]) (blkOk_by (own := [("k", 3)]) (N := ["answer", "due", "key", "k"]) (sc := defScope s__law_same) (by decide +kernel)) (fun _ _ _ _ _ => (gvd_n (i := 3) sc__law_same.nd (by decide) rfl (by first | exact Or.inl rfl | exact Or.inr rfl))) (fun _ _ _ _ _ => tsd_n) (fun _ _ _ _ _ => (ed_f rc hr rfl (ad_c (ed_ix (rm1 hr) (od_v 0) (od_v 3) (by intro o i; rfl)) (ad_c (ed_ix (rm1 hr) (od_v 1) (od_v 3) (by intro o i; rfl)) ad_n)))))))))))) bd_nil)
  (bd_cons (sd_if (td_v (ed_isi isi_str rfl T.z_isinstance (by decide +kernel) rfl T.z_str (by decide +kernel) (od_v 1))) (bd_one (sd_ret (ed_and (ed_isi isi_str rfl T.z_isinstance (by decide +kernel) rfl T.z_str (by decide +kernel) (od_v 0)) (ed_one (ed_cmp (op_eqG (rm64 hr)) k_eq (nomark _) (od_v 0) (od_v 1)))))) bd_nil)
  (bd_cons (sd_if (td_w (wd_or (td_cmp op_isN k_isN (nomark _) (od_v 1) (od_e ed_non)) (wd_or (td_cmp op_isBl k_isB (nomark _) (od_v 1) (od_e ed_bl)) (wd_or1 (td_cmp op_isBl k_isB (nomark _) (od_v 1) (od_e ed_bl)))))) (bd_one (sd_ret (ed_or (ed_and (ed_cmp op_isN k_isN (nomark _) (od_v 1) (od_e ed_non)) (ed_one (ed_cmp op_isN k_isN (nomark _) (od_v 0) (od_e ed_non)))) (ed_or (ed_and (ed_cmp op_isBl k_isB (nomark _) (od_v 1) (od_e ed_bl)) (ed_one (ed_cmp op_isBl k_isB (nomark _) (od_v 0) (od_e ed_bl)))) (ed_one (ed_and (ed_cmp op_isBl k_isB (nomark _) (od_v 1) (od_e ed_bl)) (ed_one (ed_cmp op_isBl k_isB (nomark _) (od_v 0) (od_e ed_bl))))))))) bd_nil)
  (bd_one (sd_ret (ed_and (ed_isi isi_int rfl T.z_isinstance (by decide +kernel) rfl T.z_int (by decide +kernel) (od_v 0)) (ed_and (ed_not (ed_isi isi_bool rfl T.z_isinstance (by decide +kernel) rfl T.z_bool (by decide +kernel) (od_v 0))) (ed_one (ed_cmp (op_eqG (rm64 hr)) k_eq (nomark _) (od_v 0) (od_v 1)))))))))))
theorem cn__law_same (T : Tx K mg) : ∀ n : Nat, CF P w K mg base (n + 0) "_law_same" (fs2 (f__law_same2 n))
  | 0 => cf_none T.d__law_same (spF_none fun ds Pp h => rec0__law_same2 ds Pp h)
  | n + 1 => (show CFn P w K mg base (n + 0 + 1) "_law_same" _ from cf_of T.d__law_same fun f fd F => okF2 F sc__law_same (by decide) (dr__law_same T (cn__law_same T n)) (law__law_same2 n)).mono (by omega)
theorem c__law_same (T : Tx K mg) : CF P w K mg base 8 "_law_same" (fs2 (f__law_same2 8)) := (cn__law_same T 8).mono (by decide)
theorem sc__law_copied : FnScope ["value", "found", "key", "one"] ["value"] (defScope s__law_copied) := ⟨rfl, rfl, rfl, by decide +kernel, rfl, by decide +kernel, by decide +kernel⟩
theorem dr__law_copied {f : Addr} (T : Tx K mg) {n : Nat} {self : FS} (rc : CF P w K mg base (n + 0) "_law_copied" self) : DerOk P w K mg base ["value", "found", "key", "one"] "_law_copied" s__law_copied f (n + 0) (w__law_copied self) := fun cdv A outer s H E hr0 => have hr := hr0; (bd_cons (sd_if (td_v (ed_isi isi_dict rfl T.z_isinstance (by decide +kernel) rfl T.z_dict (by decide +kernel) (od_v 0))) (bd_cons (sd_set (i := 1) sc__law_copied.nd rfl (by first | exact Or.inl rfl | exact Or.inr rfl) ed_dct0)
  (bd_cons (sd_for PassesOwn.never rfl (id_s (ed_v 0)) (gd_n (i := 2) sc__law_copied.nd rfl (by first | exact Or.inl rfl | exact Or.inr rfl)) (bd_one (sd_sub (rm1 hr) (pv 1) (ed_v 2) (ed_f rc hr rfl (ad_c (ed_ix (rm1 hr) (od_v 0) (od_v 2) (by intro o i; rfl)) ad_n)))))
  (bd_one (sd_ret (ed_m 1))))) bd_nil)
  (bd_cons (sd_if (td_v (ed_isi isi_list rfl T.z_isinstance (by decide +kernel) rfl T.z_list (by decide +kernel) (od_v 0))) (bd_one (sd_ret (ed_lc (vs := [3]) rfl sc__law_copied.nd rfl (id_s (ed_v 0)) (own := [("one", 3)]) (blkOk_by (own := [("one", 3)]) (N := ["value", "found", "key", "one"]) (sc := defScope s__law_copied) (by decide +kernel)) (fun _ _ _ _ _ => (gvd_n (i := 3) sc__law_copied.nd (by decide) rfl (by first | exact Or.inl rfl | exact Or.inr rfl))) (fun _ _ _ _ _ => tsd_n) (fun _ _ _ _ _ => (ed_f rc hr rfl (ad_c (ed_v 3) ad_n)))))) bd_nil)
  (bd_cons (sd_if (td_v (ed_isi isi_tuple rfl T.z_isinstance (by decide +kernel) rfl T.z_tuple (by decide +kernel) (od_v 0))) (bd_one (sd_ret (ed_callT1 call_tuple_of k_tuple rfl T.z_tuple (by decide +kernel) (od_e (ed_lc (vs := [3]) rfl sc__law_copied.nd rfl (id_s (ed_v 0)) (own := [("one", 3)]) (blkOk_by (own := [("one", 3)]) (N := ["value", "found", "key", "one"]) (sc := defScope s__law_copied) (by decide +kernel)) (fun _ _ _ _ _ => (gvd_n (i := 3) sc__law_copied.nd (by decide) rfl (by first | exact Or.inl rfl | exact Or.inr rfl))) (fun _ _ _ _ _ => tsd_n) (fun _ _ _ _ _ => (ed_f rc hr rfl (ad_c (ed_v 3) ad_n)))))))) bd_nil)
  (bd_one (sd_ret (ed_m 0))))))
theorem cn__law_copied (T : Tx K mg) : ∀ n : Nat, CF P w K mg base (n + 0) "_law_copied" (fs1 (f__law_copied n))
  | 0 => cf_none T.d__law_copied (spF_none fun ds Pp h => rec0__law_copied ds Pp h)
  | n + 1 => (show CFn P w K mg base (n + 0 + 1) "_law_copied" _ from cf_of T.d__law_copied fun f fd F => okF1 F sc__law_copied (by decide) (dr__law_copied T (cn__law_copied T n)) (law__law_copied n)).mono (by omega)
theorem c__law_copied (T : Tx K mg) : CF P w K mg base 4 "_law_copied" (fs1 (f__law_copied 4)) := (cn__law_copied T 4).mono (by decide)
theorem sc__law_different : FnScope ["items", "found", "item"] ["items"] (defScope s__law_different) := ⟨rfl, rfl, rfl, by decide +kernel, rfl, by decide +kernel, by decide +kernel⟩
theorem dr__law_different {f : Addr} (T : Tx K mg) : DerOk P w K mg base ["items", "found", "item"] "_law_different" s__law_different f 0 w__law_different := fun cdv A outer s H E hr => (bd_cons (sd_set (i := 1) sc__law_different.nd rfl (by first | exact Or.inl rfl | exact Or.inr rfl) (ed_lst ad_n))
  (bd_cons (sd_for PassesOwn.never rfl (id_s (ed_v 0)) (gd_n (i := 2) sc__law_different.nd rfl (by first | exact Or.inl rfl | exact Or.inr rfl)) (bd_one (sd_if (td_cmp (op_ninAll (rm65 hr)) k_nin (by rfl) (od_v 2) (od_v 1)) (bd_one (sd_expr (ed_append (pv 1) (ed_v 2)))) bd_nil)))
  (bd_one (sd_ret (ed_m 1)))))
theorem c__law_different (T : Tx K mg) : CF P w K mg base 1 "_law_different" (fs1 f__law_different) := cf_of T.d__law_different fun f fd F => okF1 F sc__law_different (by decide) (dr__law_different T) law__law_different
theorem sc__law_grammar_drawn : FnScope ["pool", "most", "heads", "found", "head", "told", "k", "sprout", "sign"] ["pool", "most"] (defScope s__law_grammar_drawn) := ⟨rfl, rfl, rfl, by decide +kernel, rfl, by decide +kernel, by decide +kernel⟩
theorem dr__law_grammar_drawn {f : Addr} (T : Tx K mg) : DerOk P w K mg base ["pool", "most", "heads", "found", "head", "told", "k", "sprout", "sign"] "_law_grammar_drawn" s__law_grammar_drawn f 4 w__law_grammar_drawn := fun cdv A outer s H E hr => (bd_cons (sd_set (i := 2) sc__law_grammar_drawn.nd rfl (by first | exact Or.inl rfl | exact Or.inr rfl) (ed_slice (od_e (ed_lst (ad_c (ed_str (l := [83]) (by decide +kernel)) (ad_c (ed_str (l := [65]) (by decide +kernel)) (ad_c (ed_str (l := [66]) (by decide +kernel)) (ad_c (ed_str (l := [67]) (by decide +kernel)) ad_n)))))) pd_n (pd_s (ed_op op_addAll k_add (od_e ed_int) (od_e (ed_p (c__law_draw T) (hr.mono (by decide)) rfl (pv 0) (ad_c (ed_v 1) ad_n)))))))
  (bd_cons (sd_set (i := 3) sc__law_grammar_drawn.nd rfl (by first | exact Or.inl rfl | exact Or.inr rfl) ed_dct0)
  (bd_cons (sd_for PassesOwn.never rfl (id_s (ed_v 2)) (gd_n (i := 4) sc__law_grammar_drawn.nd rfl (by first | exact Or.inl rfl | exact Or.inr rfl)) (bd_cons (sd_expr (ed_p (c__law_next T) (hr.mono (by decide)) rfl (pv 0) ad_n))
  (bd_cons (sd_set (i := 5) sc__law_grammar_drawn.nd rfl (by first | exact Or.inl rfl | exact Or.inr rfl) (ed_lst ad_n))
  (bd_cons (sd_for PassesOwn.never rfl (id_r1 rfl T.z_range (ed_if (td_cmp (op_neG (rm64 hr)) k_ne (nomark _) (od_v 4) (od_e (ed_str (l := [83]) (by decide +kernel)))) (ed_p (c__law_draw T) (hr.mono (by decide)) rfl (pv 0) (ad_c ed_int ad_n)) (ed_op op_addAll k_add (od_e ed_int) (od_e (ed_p (c__law_draw T) (hr.mono (by decide)) rfl (pv 0) (ad_c ed_int ad_n)))))) (gd_n (i := 6) sc__law_grammar_drawn.nd rfl (by first | exact Or.inl rfl | exact Or.inr rfl)) (bd_cons (sd_set (i := 7) sc__law_grammar_drawn.nd rfl (by first | exact Or.inl rfl | exact Or.inr rfl) (ed_str (l := []) (by decide +kernel)))
  (bd_cons (sd_for PassesOwn.never rfl (id_r1 rfl T.z_range (ed_p (c__law_draw T) (hr.mono (by decide)) rfl (pv 0) (ad_c ed_int ad_n))) (gd_n (i := 8) sc__law_grammar_drawn.nd rfl (by first | exact Or.inl rfl | exact Or.inr rfl)) (bd_one (sd_set (i := 7) sc__law_grammar_drawn.nd rfl (by first | exact Or.inl rfl | exact Or.inr rfl) (ed_op op_addAll k_add (od_v 7) (od_e (ed_p (c__law_pick T) (hr.mono (by decide)) rfl (pv 0) (ad_c (ed_op op_addAll k_add (od_e (ed_lst (ad_c (ed_str (l := [97]) (by decide +kernel)) (ad_c (ed_str (l := [98]) (by decide +kernel)) (ad_c (ed_str (l := [97]) (by decide +kernel)) (ad_c (ed_str (l := [98]) (by decide +kernel)) ad_n)))))) (od_v 2)) ad_n)))))))
  (bd_one (sd_if (td_cmp (op_ninAll (rm65 hr)) k_nin (by rfl) (od_v 7) (od_v 5)) (bd_one (sd_expr (ed_append (pv 5) (ed_v 7)))) bd_nil)))))
  (bd_one (sd_sub (rm1 hr) (pv 3) (ed_v 4) (ed_call1 (cr_sortD (rm70 hr)) k_sorted rfl T.z_sorted (by decide +kernel) (od_v 5))))))))
  (bd_one (sd_ret (ed_m 3))))))
theorem c__law_grammar_drawn (T : Tx K mg) : CP P w K mg base 5 "_law_grammar_drawn" (ps1 f__law_grammar_drawn) := cf_of T.d__law_grammar_drawn fun f fd F => okP1 F sc__law_grammar_drawn (by decide) (dr__law_grammar_drawn T) law__law_grammar_drawn
theorem sc__law_spans : FnScope ["grammar", "word", "found", "turn", "new", "head", "sprout", "first", "ends", "sign", "further", "place", "last"] ["grammar", "word"] (defScope s__law_spans) := ⟨rfl, rfl, rfl, by decide +kernel, rfl, by decide +kernel, by decide +kernel⟩
theorem dr__law_spans {f : Addr} (T : Tx K mg) : DerOk P w K mg base ["grammar", "word", "found", "turn", "new", "head", "sprout", "first", "ends", "sign", "further", "place", "last"] "_law_spans" s__law_spans f 1 w__law_spans := fun cdv A outer s H E hr => (bd_cons (sd_set (i := 2) sc__law_spans.nd rfl (by first | exact Or.inl rfl | exact Or.inr rfl) (ed_lst ad_n))
  (bd_cons (sd_for PassesOwn.never rfl (id_r1 rfl T.z_range ed_int) (gd_n (i := 3) sc__law_spans.nd rfl (by first | exact Or.inl rfl | exact Or.inr rfl)) (bd_cons (sd_set (i := 4) sc__law_spans.nd rfl (by first | exact Or.inl rfl | exact Or.inr rfl) (ed_lst ad_n))
  (bd_cons (sd_for PassesOwn.never rfl (id_s (ed_call1 (cr_sortK rfl (rm70 hr)) k_sortK rfl T.z_sorted (by decide +kernel) (od_v 0))) (gd_n (i := 5) sc__law_spans.nd rfl (by first | exact Or.inl rfl | exact Or.inr rfl)) (bd_one (sd_for PassesOwn.never rfl (id_s (ed_ix (rm1 hr) (od_v 0) (od_v 5) (by intro o i; rfl))) (gd_n (i := 6) sc__law_spans.nd rfl (by first | exact Or.inl rfl | exact Or.inr rfl)) (bd_one (sd_for PassesOwn.never rfl (id_r1 rfl T.z_range (ed_op op_addAll k_add (od_e (ed_call1 call_lenAll k_len rfl T.z_len (by decide +kernel) (od_v 1))) (od_e ed_int))) (gd_n (i := 7) sc__law_spans.nd rfl (by first | exact Or.inl rfl | exact Or.inr rfl)) (bd_cons (sd_set (i := 8) sc__law_spans.nd rfl (by first | exact Or.inl rfl | exact Or.inr rfl) (ed_lst (ad_c (ed_v 7) ad_n)))
  (bd_cons (sd_for PassesOwn.never rfl (id_s (ed_v 6)) (gd_n (i := 9) sc__law_spans.nd rfl (by first | exact Or.inl rfl | exact Or.inr rfl)) (bd_cons (sd_set (i := 10) sc__law_spans.nd rfl (by first | exact Or.inl rfl | exact Or.inr rfl) (ed_lst ad_n))
  (bd_cons (sd_for PassesOwn.never rfl (id_s (ed_v 8)) (gd_n (i := 11) sc__law_spans.nd rfl (by first | exact Or.inl rfl | exact Or.inr rfl)) (bd_one (sd_if (td_cmp (op_ninAll (rm65 hr)) k_nin (by rfl) (od_v 9) (od_v 0)) (bd_one (sd_set (i := 10) sc__law_spans.nd rfl (by first | exact Or.inl rfl | exact Or.inr rfl) (ed_op op_addAll k_add (od_v 10) (od_e (ed_if (td_cmp (op_eqG (rm64 hr)) k_eq (nomark _) (od_e (ed_slice (od_v 1) (pd_s (ed_v 11)) (pd_s (ed_op op_addAll k_add (od_v 11) (od_e ed_int))))) (od_v 9)) (ed_lst (ad_c (ed_op op_addAll k_add (od_v 11) (od_e ed_int)) ad_n)) (ed_lst ad_n)))))) (bd_one (sd_set (i := 10) sc__law_spans.nd rfl (by first | exact Or.inl rfl | exact Or.inr rfl) (ed_op op_addAll k_add (od_v 10) (od_e (ed_lc (vs := [12]) rfl sc__law_spans.nd rfl (id_r2 rfl T.z_range (ed_v 11) (ed_op op_addAll k_add (od_e (ed_call1 call_lenAll k_len rfl T.z_len (by decide +kernel) (od_v 1))) (od_e ed_int))) (own := [("last", 12)]) (blkOk_by (own := [("last", 12)]) (N := ["grammar", "word", "found", "turn", "new", "head", "sprout", "first", "ends", "sign", "further", "place", "last"]) (sc := defScope s__law_spans) (by decide +kernel)) (fun _ _ _ _ _ => (gvd_n (i := 12) sc__law_spans.nd (by decide) rfl (by first | exact Or.inl rfl | exact Or.inr rfl))) (fun _ _ _ _ _ => (tsd_1 (td_cmp (op_inAll (rm65 hr)) k_in (by rfl) (od_e (ed_tup (ad_c (ed_v 9) (ad_c (ed_v 11) (ad_c (ed_v 12) ad_n))))) (od_v 2)))) (fun _ _ _ _ _ => (ed_v 12))))))))))
  (bd_one (sd_set (i := 8) sc__law_spans.nd rfl (by first | exact Or.inl rfl | exact Or.inr rfl) (ed_f (c__law_different T) (hr.mono (by decide)) rfl (ad_c (ed_v 10) ad_n)))))))
  (bd_one (sd_set (i := 4) sc__law_spans.nd rfl (by first | exact Or.inl rfl | exact Or.inr rfl) (ed_op op_addAll k_add (od_v 4) (od_e (ed_lc (vs := [12]) rfl sc__law_spans.nd rfl (id_s (ed_v 8)) (own := [("last", 12)]) (blkOk_by (own := [("last", 12)]) (N := ["grammar", "word", "found", "turn", "new", "head", "sprout", "first", "ends", "sign", "further", "place", "last"]) (sc := defScope s__law_spans) (by decide +kernel)) (fun _ _ _ _ _ => (gvd_n (i := 12) sc__law_spans.nd (by decide) rfl (by first | exact Or.inl rfl | exact Or.inr rfl))) (fun _ _ _ _ _ => (tsd_1 (td_w (wd_and (td_cmp (op_ninAll (rm65 hr)) k_nin (by rfl) (od_e (ed_tup (ad_c (ed_v 5) (ad_c (ed_v 7) (ad_c (ed_v 12) ad_n))))) (od_v 2)) (wd_and1 (td_cmp (op_ninAll (rm65 hr)) k_nin (by rfl) (od_e (ed_tup (ad_c (ed_v 5) (ad_c (ed_v 7) (ad_c (ed_v 12) ad_n))))) (od_v 4))))))) (fun _ _ _ _ _ => (ed_tup (ad_c (ed_v 5) (ad_c (ed_v 7) (ad_c (ed_v 12) ad_n)))))))))))))))))
  (bd_cons (sd_set (i := 2) sc__law_spans.nd rfl (by first | exact Or.inl rfl | exact Or.inr rfl) (ed_op op_addAll k_add (od_v 2) (od_v 4)))
  (bd_one (sd_if (td_cmp (op_eqG (rm64 hr)) k_eq (nomark _) (od_v 4) (od_e (ed_lst ad_n))) (bd_one (sd_ret (ed_m 2))) bd_nil))))))
  (bd_one (sd_ret ed_non))))
theorem c__law_spans (T : Tx K mg) : CF P w K mg base 2 "_law_spans" (fs2 f__law_spans) := cf_of T.d__law_spans fun f fd F => okF2 F sc__law_spans (by decide) (dr__law_spans T) law__law_spans
theorem sc__law_is_tree : FnScope ["grammar", "value", "signs", "part"] ["grammar", "value"] (defScope s__law_is_tree) := ⟨rfl, rfl, rfl, by decide +kernel, rfl, by decide +kernel, by decide +kernel⟩
theorem dr__law_is_tree {f : Addr} (T : Tx K mg) {n : Nat} {self : FS} (rc : CF P w K mg base (n + 0) "_law_is_tree" self) : DerOk P w K mg base ["grammar", "value", "signs", "part"] "_law_is_tree" s__law_is_tree f (n + 0) (w__law_is_tree self) := fun cdv A outer s H E hr0 => have hr := hr0; (bd_cons (sd_if (td_w (wd_or (td_not (td_v (ed_isi isi_tuple rfl T.z_isinstance (by decide +kernel) rfl T.z_tuple (by decide +kernel) (od_v 1)))) (wd_or (td_cmp (op_neG (rm64 hr)) k_ne (nomark _) (od_e (ed_call1 call_lenAll k_len rfl T.z_len (by decide +kernel) (od_v 1))) (od_e ed_int)) (wd_or (td_not (td_v (ed_isi isi_str rfl T.z_isinstance (by decide +kernel) rfl T.z_str (by decide +kernel) (od_e (ed_ix (rm1 hr) (od_v 1) (od_e ed_int) (by intro o i; rfl)))))) (wd_or (td_cmp (op_ninAll (rm65 hr)) k_nin (by rfl) (od_e (ed_ix (rm1 hr) (od_v 1) (od_e ed_int) (by intro o i; rfl))) (od_v 0)) (wd_or1 (td_not (td_v (ed_isi isi_tuple rfl T.z_isinstance (by decide +kernel) rfl T.z_tuple (by decide +kernel) (od_e (ed_ix (rm1 hr) (od_v 1) (od_e ed_int) (by intro o i; rfl)))))))))))) (bd_one (sd_ret ed_bl)) bd_nil)
  (bd_cons (sd_set (i := 2) sc__law_is_tree.nd rfl (by first | exact Or.inl rfl | exact Or.inr rfl) (ed_str (l := []) (by decide +kernel)))
  (bd_cons (sd_for PassesOwn.never rfl (id_s (ed_ix (rm1 hr) (od_v 1) (od_e ed_int) (by intro o i; rfl))) (gd_n (i := 3) sc__law_is_tree.nd rfl (by first | exact Or.inl rfl | exact Or.inr rfl)) (bd_one (sd_if (td_v (ed_isi isi_str rfl T.z_isinstance (by decide +kernel) rfl T.z_str (by decide +kernel) (od_v 3))) (bd_cons (sd_set (i := 2) sc__law_is_tree.nd rfl (by first | exact Or.inl rfl | exact Or.inr rfl) (ed_op op_addAll k_add (od_v 2) (od_v 3)))
  (bd_one (sd_if (td_w (wd_or (td_cmp (op_neG (rm64 hr)) k_ne (nomark _) (od_e (ed_call1 call_lenAll k_len rfl T.z_len (by decide +kernel) (od_v 3))) (od_e ed_int)) (wd_or1 (td_cmp (op_ninAll (rm65 hr)) k_nin (by rfl) (od_v 3) (od_e (ed_str (l := lowL) (by decide +kernel))))))) (bd_one (sd_ret ed_bl)) bd_nil))) (bd_one (sd_if (td_v (ed_f rc hr rfl (ad_c (ed_v 0) (ad_c (ed_v 3) ad_n)))) (bd_one (sd_set (i := 2) sc__law_is_tree.nd rfl (by first | exact Or.inl rfl | exact Or.inr rfl) (ed_op op_addAll k_add (od_v 2) (od_e (ed_ix (rm1 hr) (od_v 3) (od_e ed_int) (by intro o i; rfl)))))) (bd_one (sd_ret ed_bl)))))))
  (bd_one (sd_ret (ed_cmp (op_inAll (rm65 hr)) k_in (by rfl) (od_v 2) (od_e (ed_ix (rm1 hr) (od_v 0) (od_e (ed_ix (rm1 hr) (od_v 1) (od_e ed_int) (by intro o i; rfl))) (by intro o i; rfl)))))))))
theorem cn__law_is_tree (T : Tx K mg) : ∀ n : Nat, CF P w K mg base (n + 0) "_law_is_tree" (fs2 (f__law_is_tree n))
  | 0 => cf_none T.d__law_is_tree (spF_none fun ds Pp h => rec0__law_is_tree ds Pp h)
  | n + 1 => (show CFn P w K mg base (n + 0 + 1) "_law_is_tree" _ from cf_of T.d__law_is_tree fun f fd F => okF2 F sc__law_is_tree (by decide) (dr__law_is_tree T (cn__law_is_tree T n)) (law__law_is_tree n)).mono (by omega)
theorem c__law_is_tree (T : Tx K mg) : CF P w K mg base 30 "_law_is_tree" (fs2 (f__law_is_tree 30)) := (cn__law_is_tree T 30).mono (by decide)
theorem sc__law_word_of : FnScope ["told", "found", "part"] ["told"] (defScope s__law_word_of) := ⟨rfl, rfl, rfl, by decide +kernel, rfl, by decide +kernel, by decide +kernel⟩
theorem dr__law_word_of {f : Addr} (T : Tx K mg) {n : Nat} {self : FS} (rc : CF P w K mg base (n + 0) "_law_word_of" self) : DerOk P w K mg base ["told", "found", "part"] "_law_word_of" s__law_word_of f (n + 0) (w__law_word_of self) := fun cdv A outer s H E hr0 => have hr := hr0; (bd_cons (sd_set (i := 1) sc__law_word_of.nd rfl (by first | exact Or.inl rfl | exact Or.inr rfl) (ed_str (l := []) (by decide +kernel)))
  (bd_cons (sd_for PassesOwn.never rfl (id_s (ed_ix (rm1 hr) (od_v 0) (od_e ed_int) (by intro o i; rfl))) (gd_n (i := 2) sc__law_word_of.nd rfl (by first | exact Or.inl rfl | exact Or.inr rfl)) (bd_one (sd_set (i := 1) sc__law_word_of.nd rfl (by first | exact Or.inl rfl | exact Or.inr rfl) (ed_op op_addAll k_add (od_v 1) (od_e (ed_if (td_v (ed_isi isi_str rfl T.z_isinstance (by decide +kernel) rfl T.z_str (by decide +kernel) (od_v 2))) (ed_v 2) (ed_f rc hr rfl (ad_c (ed_v 2) ad_n))))))))
  (bd_one (sd_ret (ed_m 1)))))
theorem cn__law_word_of (T : Tx K mg) : ∀ n : Nat, CF P w K mg base (n + 0) "_law_word_of" (fs1 (f__law_word_of n))
  | 0 => cf_none T.d__law_word_of (spF_none fun ds Pp h => rec0__law_word_of ds Pp h)
  | n + 1 => (show CFn P w K mg base (n + 0 + 1) "_law_word_of" _ from cf_of T.d__law_word_of fun f fd F => okF1 F sc__law_word_of (by decide) (dr__law_word_of T (cn__law_word_of T n)) (law__law_word_of n)).mono (by omega)
theorem c__law_word_of (T : Tx K mg) : CF P w K mg base 30 "_law_word_of" (fs1 (f__law_word_of 30)) := (cn__law_word_of T 30).mono (by decide)
theorem sc__law_bent : FnScope ["pool", "told", "head", "parts", "way", "at", "part"] ["pool", "told"] (defScope s__law_bent) := ⟨rfl, rfl, rfl, by decide +kernel, rfl, by decide +kernel, by decide +kernel⟩
theorem dr__law_bent {f : Addr} (T : Tx K mg) {n : Nat} {self : PFS} (rc : CP P w K mg base (n + 4) "_law_bent" self) : DerOk P w K mg base ["pool", "told", "head", "parts", "way", "at", "part"] "_law_bent" s__law_bent f (n + 4) (w__law_bent self) := fun cdv A outer s H E hr0 => have hr := hr0; (bd_cons (sd_asg (ed_v 1) (gd_t rfl (gsd_c (gd_n (i := 2) sc__law_bent.nd rfl (by first | exact Or.inl rfl | exact Or.inr rfl)) (gsd_c (gd_n (i := 3) sc__law_bent.nd rfl (by first | exact Or.inl rfl | exact Or.inr rfl)) gsd_n))))
  (bd_cons (sd_set (i := 4) sc__law_bent.nd rfl (by first | exact Or.inl rfl | exact Or.inr rfl) (ed_p (c__law_draw T) (hr.mono (by omega)) rfl (pv 0) (ad_c ed_int ad_n)))
  (bd_cons (sd_if (td_cmp (op_eqG (rm64 hr)) k_eq (nomark _) (od_v 4) (od_e ed_int)) (bd_one (sd_ret (ed_tup (ad_c (ed_if (td_cmp (op_neG (rm64 hr)) k_ne (nomark _) (od_v 2) (od_e (ed_str (l := [65]) (by decide +kernel)))) (ed_str (l := [65]) (by decide +kernel)) (ed_str (l := [83]) (by decide +kernel))) (ad_c (ed_v 3) ad_n))))) bd_nil)
  (bd_cons (sd_if (td_cmp (op_eqG (rm64 hr)) k_eq (nomark _) (od_v 4) (od_e ed_int)) (bd_one (sd_ret (ed_tup (ad_c (ed_v 2) (ad_c (ed_slice (od_v 3) (pd_s ed_int) pd_n) ad_n))))) bd_nil)
  (bd_cons (sd_if (td_cmp (op_eqG (rm64 hr)) k_eq (nomark _) (od_v 4) (od_e ed_int)) (bd_one (sd_ret (ed_tup (ad_c (ed_v 2) (ad_c (ed_op op_addAll k_add (od_v 3) (od_e (ed_tup (ad_c (ed_str (l := [97]) (by decide +kernel)) ad_n)))) ad_n))))) bd_nil)
  (bd_cons (sd_if (td_cmp (op_eqG (rm64 hr)) k_eq (nomark _) (od_v 4) (od_e ed_int)) (bd_one (sd_ret (ed_tup (ad_c (ed_v 2) (ad_c (ed_callT1 call_list_of k_list rfl T.z_list (by decide +kernel) (od_v 3)) ad_n))))) bd_nil)
  (bd_consJ (sd_if (td_w (wd_and (td_cmp (op_eqG (rm64 hr)) k_eq (nomark _) (od_v 4) (od_e ed_int)) (wd_and1 (td_cmp (op_neG (rm64 hr)) k_ne (nomark _) (od_v 3) (od_e (ed_tup ad_n)))))) (bd_cons (sd_set (i := 5) sc__law_bent.nd rfl (by first | exact Or.inl rfl | exact Or.inr rfl) (ed_p (c__law_draw T) (hr.mono (by omega)) rfl (pv 0) (ad_c (ed_call1 call_lenAll k_len rfl T.z_len (by decide +kernel) (od_v 3)) ad_n)))
  (bd_cons (sd_set (i := 6) sc__law_bent.nd rfl (by first | exact Or.inl rfl | exact Or.inr rfl) (ed_ix (rm1 hr) (od_v 3) (od_v 5) (by intro o i; rfl)))
  (bd_one (sd_ret (ed_tup (ad_c (ed_v 2) (ad_c (ed_op op_addAll k_add (od_e (ed_op op_addAll k_add (od_e (ed_slice (od_v 3) pd_n (pd_s (ed_v 5)))) (od_e (ed_tup (ad_c (ed_if (td_v (ed_isi isi_tuple rfl T.z_isinstance (by decide +kernel) rfl T.z_tuple (by decide +kernel) (od_v 6))) (ed_p rc hr rfl (pv 0) (ad_c (ed_v 6) ad_n)) (ed_str (l := [98]) (by decide +kernel))) ad_n))))) (od_e (ed_slice (od_v 3) (pd_s (ed_op op_addAll k_add (od_v 5) (od_e ed_int))) pd_n))) ad_n))))))) bd_nil)
  (bd_one (sd_ret (ed_p (c__law_pick T) (hr.mono (by omega)) rfl (pv 0) (ad_c (ed_lst (ad_c ed_non (ad_c (ed_tup (ad_c (ed_v 2) ad_n)) (ad_c (ed_tup (ad_c (ed_v 2) (ad_c (ed_v 3) (ad_c (ed_v 3) ad_n)))) (ad_c (ed_str (l := [97]) (by decide +kernel)) (ad_c (ed_tup (ad_c ed_int (ad_c (ed_v 3) ad_n))) (ad_c (ed_v 1) ad_n))))))) ad_n)))))))))))
theorem cn__law_bent (T : Tx K mg) : ∀ n : Nat, CP P w K mg base (n + 4) "_law_bent" (ps1 (f__law_bent n))
  | 0 => cf_none T.d__law_bent (spP_none fun ds Pp h => rec0__law_bent ds Pp h)
  | n + 1 => (show CFn P w K mg base (n + 4 + 1) "_law_bent" _ from cf_of T.d__law_bent fun f fd F => okP1 F sc__law_bent (by decide) (dr__law_bent T (cn__law_bent T n)) (law__law_bent n)).mono (by omega)
theorem c__law_bent (T : Tx K mg) : CP P w K mg base 34 "_law_bent" (ps1 (f__law_bent 30)) := (cn__law_bent T 30).mono (by decide)
theorem sc_law : FnScope ["script", "pool", "grammar", "handed", "k", "word", "holds", "head", "told", "due", "bent", "right", "sign"] ["script"] (defScope s_law) := ⟨rfl, rfl, rfl, by decide +kernel, rfl, by decide +kernel, by decide +kernel⟩
theorem dr_law {f : Addr} (T : Tx K mg) : DerOk P w K mg base ["script", "pool", "grammar", "handed", "k", "word", "holds", "head", "told", "due", "bent", "right", "sign"] "law" s_law f 34 w_law := fun cdv A outer s H E hr => (bd_cons (sd_set (i := 1) sc_law.nd rfl (by first | exact Or.inl rfl | exact Or.inr rfl) (ed_f (c__law_pool T) (hr.mono (by decide)) rfl (ad_c (ed_v 0) ad_n)))
  (bd_cons (sd_set (i := 2) sc_law.nd rfl (by first | exact Or.inl rfl | exact Or.inr rfl) (ed_p (c__law_grammar_drawn T) (hr.mono (by decide)) rfl (pv 1) (ad_c ed_int ad_n)))
  (bd_cons (sd_set (i := 3) sc_law.nd rfl (by first | exact Or.inl rfl | exact Or.inr rfl) (ed_f (c__law_copied T) (hr.mono (by decide)) rfl (ad_c (ed_v 2) ad_n)))
  (bd_cons (sd_for PassesOwn.never rfl (id_r1 rfl T.z_range ed_int) (gd_n (i := 4) sc_law.nd rfl (by first | exact Or.inl rfl | exact Or.inr rfl)) (bd_cons (sd_expr (ed_p (c__law_next T) (hr.mono (by decide)) rfl (pv 1) ad_n))
  (bd_cons (sd_set (i := 5) sc_law.nd rfl (by first | exact Or.inl rfl | exact Or.inr rfl) (ed_mt1 PySem.F.plainAttrs_str PySem.F.slot_str_join PySem.F.type_str_join mt_join k_join (od_e (ed_str (l := []) (by decide +kernel))) (od_e (ed_lc (vs := [12]) rfl sc_law.nd rfl (id_r1 rfl T.z_range (ed_p (c__law_draw T) (hr.mono (by decide)) rfl (pv 1) (ad_c ed_int ad_n))) (own := [("sign", 12)]) (blkOk_by (own := [("sign", 12)]) (N := ["script", "pool", "grammar", "handed", "k", "word", "holds", "head", "told", "due", "bent", "right", "sign"]) (sc := defScope s_law) (by decide +kernel)) (fun _ _ _ _ _ => (gvd_n (i := 12) sc_law.nd (by decide) rfl (by first | exact Or.inl rfl | exact Or.inr rfl))) (fun _ _ _ _ _ => tsd_n) (fun _ _ _ _ _ => (ed_ix (rm1 hr) (od_e (ed_str (l := [97, 98]) (by decide +kernel))) (od_e (ed_p (c__law_draw T) (hr.mono (by decide)) rfl (pv 1) (ad_c ed_int ad_n))) (by intro o i; rfl)))))))
  (bd_cons (sd_set (i := 6) sc_law.nd rfl (by first | exact Or.inl rfl | exact Or.inr rfl) (ed_f (c__law_spans T) (hr.mono (by decide)) rfl (ad_c (ed_v 2) (ad_c (ed_v 5) ad_n))))
  (bd_one (sd_for PassesOwn.never rfl (id_s (ed_call1 (cr_sortK rfl (rm70 hr)) k_sortK rfl T.z_sorted (by decide +kernel) (od_v 2))) (gd_n (i := 7) sc_law.nd rfl (by first | exact Or.inl rfl | exact Or.inr rfl)) (bd_cons (sd_set (i := 8) sc_law.nd rfl (by first | exact Or.inl rfl | exact Or.inr rfl) (ed_f (c_tree T) (hr.mono (by decide)) rfl (ad_c (ed_v 3) (ad_c (ed_v 7) (ad_c (ed_v 5) ad_n)))))
  (bd_cons (sd_set (i := 9) sc_law.nd rfl (by first | exact Or.inl rfl | exact Or.inr rfl) (ed_cmp (op_inAll (rm65 hr)) k_in (by rfl) (od_e (ed_tup (ad_c (ed_v 7) (ad_c ed_int (ad_c (ed_call1 call_lenAll k_len rfl T.z_len (by decide +kernel) (od_v 5)) ad_n))))) (od_v 6)))
  (bd_cons (sd_if (td_w (wd_or (td_not (td_v (ed_f (c__law_same T) (hr.mono (by decide)) rfl (ad_c (ed_f (c_grows T) (hr.mono (by decide)) rfl (ad_c (ed_v 3) (ad_c (ed_v 7) (ad_c (ed_v 5) ad_n)))) (ad_c (ed_v 9) ad_n))))) (wd_or1 (td_cmp (op_neG (rm64 hr)) k_ne (nomark _) (od_e (ed_cmp op_notN k_notN (nomark _) (od_v 8) (od_e ed_non))) (od_v 9))))) (bd_one (sd_ret ed_bl)) bd_nil)
  (bd_one (sd_if (td_cmp op_notN k_notN (nomark _) (od_v 8) (od_e ed_non)) (bd_cons (sd_if (td_w (wd_or (td_not (td_v (ed_f (c__law_is_tree T) (hr.mono (by decide)) rfl (ad_c (ed_v 2) (ad_c (ed_v 8) ad_n))))) (wd_or (td_cmp (op_neG (rm64 hr)) k_ne (nomark _) (od_e (ed_ix (rm1 hr) (od_v 8) (od_e ed_int) (by intro o i; rfl))) (od_v 7)) (wd_or (td_cmp (op_neG (rm64 hr)) k_ne (nomark _) (od_e (ed_f (c__law_word_of T) (hr.mono (by decide)) rfl (ad_c (ed_v 8) ad_n))) (od_v 5)) (wd_or1 (td_cmp (op_neG (rm64 hr)) k_ne (nomark _) (od_e (ed_f (c_word_of T) (hr.mono (by decide)) rfl (ad_c (ed_v 8) ad_n))) (od_v 5))))))) (bd_one (sd_ret ed_bl)) bd_nil)
  (bd_cons (sd_if (td_cmp op_notBl k_notB (nomark _) (od_e (ed_f (c_judge_tree T) (hr.mono (by decide)) rfl (ad_c (ed_v 2) (ad_c (ed_v 7) (ad_c (ed_v 5) (ad_c (ed_v 8) ad_n)))))) (od_e ed_bl)) (bd_one (sd_ret ed_bl)) bd_nil)
  (bd_cons (sd_set (i := 10) sc_law.nd rfl (by first | exact Or.inl rfl | exact Or.inr rfl) (ed_p (c__law_bent T) (hr.mono (by decide)) rfl (pv 1) (ad_c (ed_v 8) ad_n)))
  (bd_cons (sd_set (i := 11) sc_law.nd rfl (by first | exact Or.inl rfl | exact Or.inr rfl) (ed_and (ed_f (c__law_is_tree T) (hr.mono (by decide)) rfl (ad_c (ed_v 2) (ad_c (ed_v 10) ad_n))) (ed_and (ed_cmp (op_eqG (rm64 hr)) k_eq (nomark _) (od_e (ed_ix (rm1 hr) (od_v 10) (od_e ed_int) (by intro o i; rfl))) (od_v 7)) (ed_one (ed_cmp (op_eqG (rm64 hr)) k_eq (nomark _) (od_e (ed_f (c__law_word_of T) (hr.mono (by decide)) rfl (ad_c (ed_v 10) ad_n))) (od_v 5))))))
  (bd_one (sd_if (td_w (wd_or (td_not (td_v (ed_f (c__law_same T) (hr.mono (by decide)) rfl (ad_c (ed_f (c_judge_tree T) (hr.mono (by decide)) rfl (ad_c (ed_v 2) (ad_c (ed_v 7) (ad_c (ed_v 5) (ad_c (ed_v 10) ad_n))))) (ad_c (ed_v 11) ad_n))))) (wd_or1 (td_cmp op_notBl k_notB (nomark _) (od_e (ed_f (c_judge_tree T) (hr.mono (by decide)) rfl (ad_c (ed_v 2) (ad_c (ed_v 7) (ad_c (ed_op op_addAll k_add (od_v 5) (od_e (ed_str (l := [97]) (by decide +kernel)))) (ad_c (ed_v 8) ad_n)))))) (od_e ed_bl))))) (bd_one (sd_ret ed_bl)) bd_nil)))))) bd_nil)))))))))))
  (bd_one (sd_ret (ed_f (c__law_same T) (hr.mono (by decide)) rfl (ad_c (ed_v 3) (ad_c (ed_v 2) ad_n)))))))))
theorem c_law (T : Tx K mg) : CF P w K mg base 35 "law" (fs1 f_law) := cf_of T.d_law fun f fd F => okF1 F sc_law (by decide) (dr_law T) law_law
end
/-! ### behind the top -/
theorem all_mk {l : PySem.W.OpenLaw} {w : World} {K : PySem.W.Frag} {h : Heap} {mg : Str → Option Value} {fa : Addr} (X : K.In h) (G : h.Ns mainGlobals mg) (hfa : mg "law" = some (.ref fa))
    {a_spans : Addr} {od_spans an_spans : Option Addr} {sl_spans : Array (Option Value)} {oc_spans kV_spans dc_spans pm_spans cd_spans ct_spans : Value} {a_ends_of : Addr} {od_ends_of an_ends_of : Option Addr} {sl_ends_of : Array (Option Value)} {oc_ends_of kV_ends_of dc_ends_of pm_ends_of cd_ends_of ct_ends_of : Value} {a_tree : Addr} {od_tree an_tree : Option Addr} {sl_tree : Array (Option Value)} {oc_tree kV_tree dc_tree pm_tree cd_tree ct_tree : Value} {a_grows : Addr} {od_grows an_grows : Option Addr} {sl_grows : Array (Option Value)} {oc_grows kV_grows dc_grows pm_grows cd_grows ct_grows : Value} {a_word_of : Addr} {od_word_of an_word_of : Option Addr} {sl_word_of : Array (Option Value)} {oc_word_of kV_word_of dc_word_of pm_word_of cd_word_of ct_word_of : Value} {a_is_tree : Addr} {od_is_tree an_is_tree : Option Addr} {sl_is_tree : Array (Option Value)} {oc_is_tree kV_is_tree dc_is_tree pm_is_tree cd_is_tree ct_is_tree : Value} {a_judge_tree : Addr} {od_judge_tree an_judge_tree : Option Addr} {sl_judge_tree : Array (Option Value)} {oc_judge_tree kV_judge_tree dc_judge_tree pm_judge_tree cd_judge_tree ct_judge_tree : Value} {a__law_mixed : Addr} {od__law_mixed an__law_mixed : Option Addr} {sl__law_mixed : Array (Option Value)} {oc__law_mixed kV__law_mixed dc__law_mixed pm__law_mixed cd__law_mixed ct__law_mixed : Value} {a__law_rest : Addr} {od__law_rest an__law_rest : Option Addr} {sl__law_rest : Array (Option Value)} {oc__law_rest kV__law_rest dc__law_rest pm__law_rest cd__law_rest ct__law_rest : Value} {a__law_pool : Addr} {od__law_pool an__law_pool : Option Addr} {sl__law_pool : Array (Option Value)} {oc__law_pool kV__law_pool dc__law_pool pm__law_pool cd__law_pool ct__law_pool : Value} {a__law_next : Addr} {od__law_next an__law_next : Option Addr} {sl__law_next : Array (Option Value)} {oc__law_next kV__law_next dc__law_next pm__law_next cd__law_next ct__law_next : Value} {a__law_draw : Addr} {od__law_draw an__law_draw : Option Addr} {sl__law_draw : Array (Option Value)} {oc__law_draw kV__law_draw dc__law_draw pm__law_draw cd__law_draw ct__law_draw : Value} {a__law_pick : Addr} {od__law_pick an__law_pick : Option Addr} {sl__law_pick : Array (Option Value)} {oc__law_pick kV__law_pick dc__law_pick pm__law_pick cd__law_pick ct__law_pick : Value} {a__law_same : Addr} {od__law_same an__law_same : Option Addr} {sl__law_same : Array (Option Value)} {oc__law_same kV__law_same dc__law_same pm__law_same cd__law_same ct__law_same : Value} {a__law_copied : Addr} {od__law_copied an__law_copied : Option Addr} {sl__law_copied : Array (Option Value)} {oc__law_copied kV__law_copied dc__law_copied pm__law_copied cd__law_copied ct__law_copied : Value} {a__law_different : Addr} {od__law_different an__law_different : Option Addr} {sl__law_different : Array (Option Value)} {oc__law_different kV__law_different dc__law_different pm__law_different cd__law_different ct__law_different : Value} {a__law_grammar_drawn : Addr} {od__law_grammar_drawn an__law_grammar_drawn : Option Addr} {sl__law_grammar_drawn : Array (Option Value)} {oc__law_grammar_drawn kV__law_grammar_drawn dc__law_grammar_drawn pm__law_grammar_drawn cd__law_grammar_drawn ct__law_grammar_drawn : Value} {a__law_spans : Addr} {od__law_spans an__law_spans : Option Addr} {sl__law_spans : Array (Option Value)} {oc__law_spans kV__law_spans dc__law_spans pm__law_spans cd__law_spans ct__law_spans : Value} {a__law_is_tree : Addr} {od__law_is_tree an__law_is_tree : Option Addr} {sl__law_is_tree : Array (Option Value)} {oc__law_is_tree kV__law_is_tree dc__law_is_tree pm__law_is_tree cd__law_is_tree ct__law_is_tree : Value} {a__law_word_of : Addr} {od__law_word_of an__law_word_of : Option Addr} {sl__law_word_of : Array (Option Value)} {oc__law_word_of kV__law_word_of dc__law_word_of pm__law_word_of cd__law_word_of ct__law_word_of : Value} {a__law_bent : Addr} {od__law_bent an__law_bent : Option Addr} {sl__law_bent : Array (Option Value)} {oc__law_bent kV__law_bent dc__law_bent pm__law_bent cd__law_bent ct__law_bent : Value} {a_law : Addr} {od_law an_law : Option Addr} {sl_law : Array (Option Value)} {oc_law kV_law dc_law pm_law cd_law ct_law : Value} {tk_LETTERS : Tok}
    (m_spans : PySem.W.nsIn K mainGlobals "spans" = some (some (.ref a_spans)))
    (l_spans : K.lookup a_spans = some ⟨oc_spans, od_spans, .func (PySem.W.fnOf "spans" "spans" (defArgs s_spans) (defBody s_spans) (defScope s_spans) .none kV_spans dc_spans pm_spans an_spans cd_spans ct_spans), sl_spans⟩)
    (c_spans : PySem.W.codeIn K cd_spans "spans" = true) (k_spans : PySem.W.keepIn K (.ref a_spans) = true)
    (m_ends_of : PySem.W.nsIn K mainGlobals "ends_of" = some (some (.ref a_ends_of)))
    (l_ends_of : K.lookup a_ends_of = some ⟨oc_ends_of, od_ends_of, .func (PySem.W.fnOf "ends_of" "ends_of" (defArgs s_ends_of) (defBody s_ends_of) (defScope s_ends_of) .none kV_ends_of dc_ends_of pm_ends_of an_ends_of cd_ends_of ct_ends_of), sl_ends_of⟩)
    (c_ends_of : PySem.W.codeIn K cd_ends_of "ends_of" = true) (k_ends_of : PySem.W.keepIn K (.ref a_ends_of) = true)
    (m_tree : PySem.W.nsIn K mainGlobals "tree" = some (some (.ref a_tree)))
    (l_tree : K.lookup a_tree = some ⟨oc_tree, od_tree, .func (PySem.W.fnOf "tree" "tree" (defArgs s_tree) (defBody s_tree) (defScope s_tree) .none kV_tree dc_tree pm_tree an_tree cd_tree ct_tree), sl_tree⟩)
    (c_tree : PySem.W.codeIn K cd_tree "tree" = true) (k_tree : PySem.W.keepIn K (.ref a_tree) = true)
    (m_grows : PySem.W.nsIn K mainGlobals "grows" = some (some (.ref a_grows)))
    (l_grows : K.lookup a_grows = some ⟨oc_grows, od_grows, .func (PySem.W.fnOf "grows" "grows" (defArgs s_grows) (defBody s_grows) (defScope s_grows) .none kV_grows dc_grows pm_grows an_grows cd_grows ct_grows), sl_grows⟩)
    (c_grows : PySem.W.codeIn K cd_grows "grows" = true) (k_grows : PySem.W.keepIn K (.ref a_grows) = true)
    (m_word_of : PySem.W.nsIn K mainGlobals "word_of" = some (some (.ref a_word_of)))
    (l_word_of : K.lookup a_word_of = some ⟨oc_word_of, od_word_of, .func (PySem.W.fnOf "word_of" "word_of" (defArgs s_word_of) (defBody s_word_of) (defScope s_word_of) .none kV_word_of dc_word_of pm_word_of an_word_of cd_word_of ct_word_of), sl_word_of⟩)
    (c_word_of : PySem.W.codeIn K cd_word_of "word_of" = true) (k_word_of : PySem.W.keepIn K (.ref a_word_of) = true)
    (m_is_tree : PySem.W.nsIn K mainGlobals "is_tree" = some (some (.ref a_is_tree)))
    (l_is_tree : K.lookup a_is_tree = some ⟨oc_is_tree, od_is_tree, .func (PySem.W.fnOf "is_tree" "is_tree" (defArgs s_is_tree) (defBody s_is_tree) (defScope s_is_tree) .none kV_is_tree dc_is_tree pm_is_tree an_is_tree cd_is_tree ct_is_tree), sl_is_tree⟩)
    (c_is_tree : PySem.W.codeIn K cd_is_tree "is_tree" = true) (k_is_tree : PySem.W.keepIn K (.ref a_is_tree) = true)
    (m_judge_tree : PySem.W.nsIn K mainGlobals "judge_tree" = some (some (.ref a_judge_tree)))
    (l_judge_tree : K.lookup a_judge_tree = some ⟨oc_judge_tree, od_judge_tree, .func (PySem.W.fnOf "judge_tree" "judge_tree" (defArgs s_judge_tree) (defBody s_judge_tree) (defScope s_judge_tree) .none kV_judge_tree dc_judge_tree pm_judge_tree an_judge_tree cd_judge_tree ct_judge_tree), sl_judge_tree⟩)
    (c_judge_tree : PySem.W.codeIn K cd_judge_tree "judge_tree" = true) (k_judge_tree : PySem.W.keepIn K (.ref a_judge_tree) = true)
    (m__law_mixed : PySem.W.nsIn K mainGlobals "_law_mixed" = some (some (.ref a__law_mixed)))
    (l__law_mixed : K.lookup a__law_mixed = some ⟨oc__law_mixed, od__law_mixed, .func (PySem.W.fnOf "_law_mixed" "_law_mixed" (defArgs s__law_mixed) (defBody s__law_mixed) (defScope s__law_mixed) .none kV__law_mixed dc__law_mixed pm__law_mixed an__law_mixed cd__law_mixed ct__law_mixed), sl__law_mixed⟩)
    (c__law_mixed : PySem.W.codeIn K cd__law_mixed "_law_mixed" = true) (k__law_mixed : PySem.W.keepIn K (.ref a__law_mixed) = true)
    (m__law_rest : PySem.W.nsIn K mainGlobals "_law_rest" = some (some (.ref a__law_rest)))
    (l__law_rest : K.lookup a__law_rest = some ⟨oc__law_rest, od__law_rest, .func (PySem.W.fnOf "_law_rest" "_law_rest" (defArgs s__law_rest) (defBody s__law_rest) (defScope s__law_rest) .none kV__law_rest dc__law_rest pm__law_rest an__law_rest cd__law_rest ct__law_rest), sl__law_rest⟩)
    (c__law_rest : PySem.W.codeIn K cd__law_rest "_law_rest" = true) (k__law_rest : PySem.W.keepIn K (.ref a__law_rest) = true)
    (m__law_pool : PySem.W.nsIn K mainGlobals "_law_pool" = some (some (.ref a__law_pool)))
    (l__law_pool : K.lookup a__law_pool = some ⟨oc__law_pool, od__law_pool, .func (PySem.W.fnOf "_law_pool" "_law_pool" (defArgs s__law_pool) (defBody s__law_pool) (defScope s__law_pool) .none kV__law_pool dc__law_pool pm__law_pool an__law_pool cd__law_pool ct__law_pool), sl__law_pool⟩)
    (c__law_pool : PySem.W.codeIn K cd__law_pool "_law_pool" = true) (k__law_pool : PySem.W.keepIn K (.ref a__law_pool) = true)
    (m__law_next : PySem.W.nsIn K mainGlobals "_law_next" = some (some (.ref a__law_next)))
    (l__law_next : K.lookup a__law_next = some ⟨oc__law_next, od__law_next, .func (PySem.W.fnOf "_law_next" "_law_next" (defArgs s__law_next) (defBody s__law_next) (defScope s__law_next) .none kV__law_next dc__law_next pm__law_next an__law_next cd__law_next ct__law_next), sl__law_next⟩)
    (c__law_next : PySem.W.codeIn K cd__law_next "_law_next" = true) (k__law_next : PySem.W.keepIn K (.ref a__law_next) = true)
    (m__law_draw : PySem.W.nsIn K mainGlobals "_law_draw" = some (some (.ref a__law_draw)))
    (l__law_draw : K.lookup a__law_draw = some ⟨oc__law_draw, od__law_draw, .func (PySem.W.fnOf "_law_draw" "_law_draw" (defArgs s__law_draw) (defBody s__law_draw) (defScope s__law_draw) .none kV__law_draw dc__law_draw pm__law_draw an__law_draw cd__law_draw ct__law_draw), sl__law_draw⟩)
    (c__law_draw : PySem.W.codeIn K cd__law_draw "_law_draw" = true) (k__law_draw : PySem.W.keepIn K (.ref a__law_draw) = true)
    (m__law_pick : PySem.W.nsIn K mainGlobals "_law_pick" = some (some (.ref a__law_pick)))
    (l__law_pick : K.lookup a__law_pick = some ⟨oc__law_pick, od__law_pick, .func (PySem.W.fnOf "_law_pick" "_law_pick" (defArgs s__law_pick) (defBody s__law_pick) (defScope s__law_pick) .none kV__law_pick dc__law_pick pm__law_pick an__law_pick cd__law_pick ct__law_pick), sl__law_pick⟩)
    (c__law_pick : PySem.W.codeIn K cd__law_pick "_law_pick" = true) (k__law_pick : PySem.W.keepIn K (.ref a__law_pick) = true)
    (m__law_same : PySem.W.nsIn K mainGlobals "_law_same" = some (some (.ref a__law_same)))
    (l__law_same : K.lookup a__law_same = some ⟨oc__law_same, od__law_same, .func (PySem.W.fnOf "_law_same" "_law_same" (defArgs s__law_same) (defBody s__law_same) (defScope s__law_same) .none kV__law_same dc__law_same pm__law_same an__law_same cd__law_same ct__law_same), sl__law_same⟩)
    (c__law_same : PySem.W.codeIn K cd__law_same "_law_same" = true) (k__law_same : PySem.W.keepIn K (.ref a__law_same) = true)
    (m__law_copied : PySem.W.nsIn K mainGlobals "_law_copied" = some (some (.ref a__law_copied)))
    (l__law_copied : K.lookup a__law_copied = some ⟨oc__law_copied, od__law_copied, .func (PySem.W.fnOf "_law_copied" "_law_copied" (defArgs s__law_copied) (defBody s__law_copied) (defScope s__law_copied) .none kV__law_copied dc__law_copied pm__law_copied an__law_copied cd__law_copied ct__law_copied), sl__law_copied⟩)
    (c__law_copied : PySem.W.codeIn K cd__law_copied "_law_copied" = true) (k__law_copied : PySem.W.keepIn K (.ref a__law_copied) = true)
    (m__law_different : PySem.W.nsIn K mainGlobals "_law_different" = some (some (.ref a__law_different)))
    (l__law_different : K.lookup a__law_different = some ⟨oc__law_different, od__law_different, .func (PySem.W.fnOf "_law_different" "_law_different" (defArgs s__law_different) (defBody s__law_different) (defScope s__law_different) .none kV__law_different dc__law_different pm__law_different an__law_different cd__law_different ct__law_different), sl__law_different⟩)
    (c__law_different : PySem.W.codeIn K cd__law_different "_law_different" = true) (k__law_different : PySem.W.keepIn K (.ref a__law_different) = true)
    (m__law_grammar_drawn : PySem.W.nsIn K mainGlobals "_law_grammar_drawn" = some (some (.ref a__law_grammar_drawn)))
    (l__law_grammar_drawn : K.lookup a__law_grammar_drawn = some ⟨oc__law_grammar_drawn, od__law_grammar_drawn, .func (PySem.W.fnOf "_law_grammar_drawn" "_law_grammar_drawn" (defArgs s__law_grammar_drawn) (defBody s__law_grammar_drawn) (defScope s__law_grammar_drawn) .none kV__law_grammar_drawn dc__law_grammar_drawn pm__law_grammar_drawn an__law_grammar_drawn cd__law_grammar_drawn ct__law_grammar_drawn), sl__law_grammar_drawn⟩)
    (c__law_grammar_drawn : PySem.W.codeIn K cd__law_grammar_drawn "_law_grammar_drawn" = true) (k__law_grammar_drawn : PySem.W.keepIn K (.ref a__law_grammar_drawn) = true)
    (m__law_spans : PySem.W.nsIn K mainGlobals "_law_spans" = some (some (.ref a__law_spans)))
    (l__law_spans : K.lookup a__law_spans = some ⟨oc__law_spans, od__law_spans, .func (PySem.W.fnOf "_law_spans" "_law_spans" (defArgs s__law_spans) (defBody s__law_spans) (defScope s__law_spans) .none kV__law_spans dc__law_spans pm__law_spans an__law_spans cd__law_spans ct__law_spans), sl__law_spans⟩)
    (c__law_spans : PySem.W.codeIn K cd__law_spans "_law_spans" = true) (k__law_spans : PySem.W.keepIn K (.ref a__law_spans) = true)
    (m__law_is_tree : PySem.W.nsIn K mainGlobals "_law_is_tree" = some (some (.ref a__law_is_tree)))
    (l__law_is_tree : K.lookup a__law_is_tree = some ⟨oc__law_is_tree, od__law_is_tree, .func (PySem.W.fnOf "_law_is_tree" "_law_is_tree" (defArgs s__law_is_tree) (defBody s__law_is_tree) (defScope s__law_is_tree) .none kV__law_is_tree dc__law_is_tree pm__law_is_tree an__law_is_tree cd__law_is_tree ct__law_is_tree), sl__law_is_tree⟩)
    (c__law_is_tree : PySem.W.codeIn K cd__law_is_tree "_law_is_tree" = true) (k__law_is_tree : PySem.W.keepIn K (.ref a__law_is_tree) = true)
    (m__law_word_of : PySem.W.nsIn K mainGlobals "_law_word_of" = some (some (.ref a__law_word_of)))
    (l__law_word_of : K.lookup a__law_word_of = some ⟨oc__law_word_of, od__law_word_of, .func (PySem.W.fnOf "_law_word_of" "_law_word_of" (defArgs s__law_word_of) (defBody s__law_word_of) (defScope s__law_word_of) .none kV__law_word_of dc__law_word_of pm__law_word_of an__law_word_of cd__law_word_of ct__law_word_of), sl__law_word_of⟩)
    (c__law_word_of : PySem.W.codeIn K cd__law_word_of "_law_word_of" = true) (k__law_word_of : PySem.W.keepIn K (.ref a__law_word_of) = true)
    (m__law_bent : PySem.W.nsIn K mainGlobals "_law_bent" = some (some (.ref a__law_bent)))
    (l__law_bent : K.lookup a__law_bent = some ⟨oc__law_bent, od__law_bent, .func (PySem.W.fnOf "_law_bent" "_law_bent" (defArgs s__law_bent) (defBody s__law_bent) (defScope s__law_bent) .none kV__law_bent dc__law_bent pm__law_bent an__law_bent cd__law_bent ct__law_bent), sl__law_bent⟩)
    (c__law_bent : PySem.W.codeIn K cd__law_bent "_law_bent" = true) (k__law_bent : PySem.W.keepIn K (.ref a__law_bent) = true)
    (m_law : PySem.W.nsIn K mainGlobals "law" = some (some (.ref a_law)))
    (l_law : K.lookup a_law = some ⟨oc_law, od_law, .func (PySem.W.fnOf "law" "law" (defArgs s_law) (defBody s_law) (defScope s_law) .none kV_law dc_law pm_law an_law cd_law ct_law), sl_law⟩)
    (c_law : PySem.W.codeIn K cd_law "law" = true) (k_law : PySem.W.keepIn K (.ref a_law) = true)
    (z_all : PySem.W.nsIn K mainGlobals "all" = some none)
    (z_bool : PySem.W.nsIn K mainGlobals "bool" = some none)
    (z_dict : PySem.W.nsIn K mainGlobals "dict" = some none)
    (z_int : PySem.W.nsIn K mainGlobals "int" = some none)
    (z_isinstance : PySem.W.nsIn K mainGlobals "isinstance" = some none)
    (z_len : PySem.W.nsIn K mainGlobals "len" = some none)
    (z_list : PySem.W.nsIn K mainGlobals "list" = some none)
    (z_range : PySem.W.nsIn K mainGlobals "range" = some none)
    (z_sorted : PySem.W.nsIn K mainGlobals "sorted" = some none)
    (z_str : PySem.W.nsIn K mainGlobals "str" = some none)
    (z_tuple : PySem.W.nsIn K mainGlobals "tuple" = some none)
    (g_LETTERS : PySem.W.nsIn K mainGlobals "LETTERS" = some (some (.str "abcdefghijklmnopqrstuvwxyz" tk_LETTERS))) :
    ∃ fd : FuncData, (∀ (s : Shared) (v : Value), BindsTo s fd ⟨[v], []⟩ [("script", v)]) ∧ ∀ base : Heap, K.In base → base.Ns mainGlobals mg → FnOk l.prog w K mg base CX0 35 fa fd ["script"] (spLaw K) := by
  have e := hfa.symm.trans (PySem.W.mg_of X G m_law)
  cases e
  have F_spans := fun_mk (st := s_spans) l_spans c_spans k_spans
  have D_spans : Df K mg "spans" s_spans ["grammar", "word"] := .mk' F_spans (PySem.W.mg_of X G m_spans) (F_spans.binds (ps := ["grammar", "word"]) fun _ _ _ _ _ _ us hl => match us, hl with | [_, _], _ => rfl)
  have F_ends_of := fun_mk (st := s_ends_of) l_ends_of c_ends_of k_ends_of
  have D_ends_of : Df K mg "ends_of" s_ends_of ["grammar", "found", "told"] := .mk' F_ends_of (PySem.W.mg_of X G m_ends_of) (F_ends_of.binds (ps := ["grammar", "found", "told"]) fun _ _ _ _ _ _ us hl => match us, hl with | [_, _, _], _ => rfl)
  have F_tree := fun_mk (st := s_tree) l_tree c_tree k_tree
  have D_tree : Df K mg "tree" s_tree ["grammar", "head", "word"] := .mk' F_tree (PySem.W.mg_of X G m_tree) (F_tree.binds (ps := ["grammar", "head", "word"]) fun _ _ _ _ _ _ us hl => match us, hl with | [_, _, _], _ => rfl)
  have F_grows := fun_mk (st := s_grows) l_grows c_grows k_grows
  have D_grows : Df K mg "grows" s_grows ["grammar", "head", "word"] := .mk' F_grows (PySem.W.mg_of X G m_grows) (F_grows.binds (ps := ["grammar", "head", "word"]) fun _ _ _ _ _ _ us hl => match us, hl with | [_, _, _], _ => rfl)
  have F_word_of := fun_mk (st := s_word_of) l_word_of c_word_of k_word_of
  have D_word_of : Df K mg "word_of" s_word_of ["told"] := .mk' F_word_of (PySem.W.mg_of X G m_word_of) (F_word_of.binds (ps := ["told"]) fun _ _ _ _ _ _ us hl => match us, hl with | [_], _ => rfl)
  have F_is_tree := fun_mk (st := s_is_tree) l_is_tree c_is_tree k_is_tree
  have D_is_tree : Df K mg "is_tree" s_is_tree ["grammar", "value"] := .mk' F_is_tree (PySem.W.mg_of X G m_is_tree) (F_is_tree.binds (ps := ["grammar", "value"]) fun _ _ _ _ _ _ us hl => match us, hl with | [_, _], _ => rfl)
  have F_judge_tree := fun_mk (st := s_judge_tree) l_judge_tree c_judge_tree k_judge_tree
  have D_judge_tree : Df K mg "judge_tree" s_judge_tree ["grammar", "head", "word", "value"] := .mk' F_judge_tree (PySem.W.mg_of X G m_judge_tree) (F_judge_tree.binds (ps := ["grammar", "head", "word", "value"]) fun _ _ _ _ _ _ us hl => match us, hl with | [_, _, _, _], _ => rfl)
  have F__law_mixed := fun_mk (st := s__law_mixed) l__law_mixed c__law_mixed k__law_mixed
  have D__law_mixed : Df K mg "_law_mixed" s__law_mixed ["number", "place"] := .mk' F__law_mixed (PySem.W.mg_of X G m__law_mixed) (F__law_mixed.binds (ps := ["number", "place"]) fun _ _ _ _ _ _ us hl => match us, hl with | [_, _], _ => rfl)
  have F__law_rest := fun_mk (st := s__law_rest) l__law_rest c__law_rest k__law_rest
  have D__law_rest : Df K mg "_law_rest" s__law_rest ["script", "place", "fills"] := .mk' F__law_rest (PySem.W.mg_of X G m__law_rest) (F__law_rest.binds (ps := ["script", "place", "fills"]) fun _ _ _ _ _ _ us hl => match us, hl with | [_, _, _], _ => rfl)
  have F__law_pool := fun_mk (st := s__law_pool) l__law_pool c__law_pool k__law_pool
  have D__law_pool : Df K mg "_law_pool" s__law_pool ["script"] := .mk' F__law_pool (PySem.W.mg_of X G m__law_pool) (F__law_pool.binds (ps := ["script"]) fun _ _ _ _ _ _ us hl => match us, hl with | [_], _ => rfl)
  have F__law_next := fun_mk (st := s__law_next) l__law_next c__law_next k__law_next
  have D__law_next : Df K mg "_law_next" s__law_next ["pool"] := .mk' F__law_next (PySem.W.mg_of X G m__law_next) (F__law_next.binds (ps := ["pool"]) fun _ _ _ _ _ _ us hl => match us, hl with | [_], _ => rfl)
  have F__law_draw := fun_mk (st := s__law_draw) l__law_draw c__law_draw k__law_draw
  have D__law_draw : Df K mg "_law_draw" s__law_draw ["pool", "limit"] := .mk' F__law_draw (PySem.W.mg_of X G m__law_draw) (F__law_draw.binds (ps := ["pool", "limit"]) fun _ _ _ _ _ _ us hl => match us, hl with | [_, _], _ => rfl)
  have F__law_pick := fun_mk (st := s__law_pick) l__law_pick c__law_pick k__law_pick
  have D__law_pick : Df K mg "_law_pick" s__law_pick ["pool", "options"] := .mk' F__law_pick (PySem.W.mg_of X G m__law_pick) (F__law_pick.binds (ps := ["pool", "options"]) fun _ _ _ _ _ _ us hl => match us, hl with | [_, _], _ => rfl)
  have F__law_same := fun_mk (st := s__law_same) l__law_same c__law_same k__law_same
  have D__law_same : Df K mg "_law_same" s__law_same ["answer", "due"] := .mk' F__law_same (PySem.W.mg_of X G m__law_same) (F__law_same.binds (ps := ["answer", "due"]) fun _ _ _ _ _ _ us hl => match us, hl with | [_, _], _ => rfl)
  have F__law_copied := fun_mk (st := s__law_copied) l__law_copied c__law_copied k__law_copied
  have D__law_copied : Df K mg "_law_copied" s__law_copied ["value"] := .mk' F__law_copied (PySem.W.mg_of X G m__law_copied) (F__law_copied.binds (ps := ["value"]) fun _ _ _ _ _ _ us hl => match us, hl with | [_], _ => rfl)
  have F__law_different := fun_mk (st := s__law_different) l__law_different c__law_different k__law_different
  have D__law_different : Df K mg "_law_different" s__law_different ["items"] := .mk' F__law_different (PySem.W.mg_of X G m__law_different) (F__law_different.binds (ps := ["items"]) fun _ _ _ _ _ _ us hl => match us, hl with | [_], _ => rfl)
  have F__law_grammar_drawn := fun_mk (st := s__law_grammar_drawn) l__law_grammar_drawn c__law_grammar_drawn k__law_grammar_drawn
  have D__law_grammar_drawn : Df K mg "_law_grammar_drawn" s__law_grammar_drawn ["pool", "most"] := .mk' F__law_grammar_drawn (PySem.W.mg_of X G m__law_grammar_drawn) (F__law_grammar_drawn.binds (ps := ["pool", "most"]) fun _ _ _ _ _ _ us hl => match us, hl with | [_, _], _ => rfl)
  have F__law_spans := fun_mk (st := s__law_spans) l__law_spans c__law_spans k__law_spans
  have D__law_spans : Df K mg "_law_spans" s__law_spans ["grammar", "word"] := .mk' F__law_spans (PySem.W.mg_of X G m__law_spans) (F__law_spans.binds (ps := ["grammar", "word"]) fun _ _ _ _ _ _ us hl => match us, hl with | [_, _], _ => rfl)
  have F__law_is_tree := fun_mk (st := s__law_is_tree) l__law_is_tree c__law_is_tree k__law_is_tree
  have D__law_is_tree : Df K mg "_law_is_tree" s__law_is_tree ["grammar", "value"] := .mk' F__law_is_tree (PySem.W.mg_of X G m__law_is_tree) (F__law_is_tree.binds (ps := ["grammar", "value"]) fun _ _ _ _ _ _ us hl => match us, hl with | [_, _], _ => rfl)
  have F__law_word_of := fun_mk (st := s__law_word_of) l__law_word_of c__law_word_of k__law_word_of
  have D__law_word_of : Df K mg "_law_word_of" s__law_word_of ["told"] := .mk' F__law_word_of (PySem.W.mg_of X G m__law_word_of) (F__law_word_of.binds (ps := ["told"]) fun _ _ _ _ _ _ us hl => match us, hl with | [_], _ => rfl)
  have F__law_bent := fun_mk (st := s__law_bent) l__law_bent c__law_bent k__law_bent
  have D__law_bent : Df K mg "_law_bent" s__law_bent ["pool", "told"] := .mk' F__law_bent (PySem.W.mg_of X G m__law_bent) (F__law_bent.binds (ps := ["pool", "told"]) fun _ _ _ _ _ _ us hl => match us, hl with | [_, _], _ => rfl)
  have F_law := fun_mk (st := s_law) l_law c_law k_law
  have D_law : Df K mg "law" s_law ["script"] := .mk' F_law (PySem.W.mg_of X G m_law) (F_law.binds (ps := ["script"]) fun _ _ _ _ _ _ us hl => match us, hl with | [_], _ => rfl)
  have T : Tx K mg := ⟨PySem.W.mg_none_of X G z_all, PySem.W.mg_none_of X G z_bool, PySem.W.mg_none_of X G z_dict, PySem.W.mg_none_of X G z_int, PySem.W.mg_none_of X G z_isinstance, PySem.W.mg_none_of X G z_len, PySem.W.mg_none_of X G z_list, PySem.W.mg_none_of X G z_range, PySem.W.mg_none_of X G z_sorted, PySem.W.mg_none_of X G z_str, PySem.W.mg_none_of X G z_tuple, ⟨_, PySem.W.mg_of X G g_LETTERS⟩, D_spans, D_ends_of, D_tree, D_grows, D_word_of, D_is_tree, D_judge_tree, D__law_mixed, D__law_rest, D__law_pool, D__law_next, D__law_draw, D__law_pick, D__law_same, D__law_copied, D__law_different, D__law_grammar_drawn, D__law_spans, D__law_is_tree, D__law_word_of, D__law_bent, D_law⟩
  exact ⟨_, fun s v => .of_eq rfl, fun base _ _ => (okF1 F_law sc_law (by decide) (dr_law T) law_law).imp spLaw_of⟩
theorem walk {l : PySem.W.OpenLaw} {q : Program} {loose : List Str} {XP : (Str → Option Value) → Heap → Prop} {YP : World → Heap → Prop} {d : DefRec} {K : Params → PySem.W.Frag} (hn : l.most = some 63) (hdf : d.params.defaults = [])
    (hY : ∀ (w : World) (h : Heap), YP w h → (K w.params).In h)
    (F : ∀ (w : World) (mg : Str → Option Value) (fa : Addr) (h : Heap), (K w.params).In h → h.Ns mainGlobals mg → mg d.name = some (.ref fa) →
      ∃ fd : FuncData, (∀ (s : Shared) (u : Value), BindsTo s fd ⟨[u], []⟩ [("script", u)]) ∧ ∀ base : Heap, (K w.params).In base → base.Ns mainGlobals mg → FnOk l.prog w (K w.params) mg base CX0 35 fa fd ["script"] (spLaw (K w.params))) :
    PySem.W.WalkO q loose XP YP l.row.toRowW d [] (fun f vs => PySem.call f vs) :=
  L2.walk_of (n := 63) (k := 35) (x := "script") (CX := fun _ => CX0) (sp := fun w => spLaw (K w.params)) hn (by decide) hdf ⟨rfl, by decide, by decide⟩ hY F (fun _ _ a ns hl _ hS => ⟨a, ns, rfl, hS, hl, fun _ => rfl⟩) fun _ _ _ _ _ z => z
end PW.K68

set_option Elab.async false
open PySem PySem.W PyProof.Rows in
set_option maxRecDepth 100000 in
set_option maxHeartbeats 0 in
theorem PySem.Challenge.cw_growth_k68_whole_words_that_grow_with_tr_holds : PySem.Challenge.rw_growth_k68_whole_words_that_grow_with_tr.Holds := by
  w_on; o_law; k_head; (case hw => w_witness2)
  k_fill
  refine PW.K68.walk (l := PySem.Challenge.rw_growth_k68_whole_words_that_grow_with_tr) rfl rfl (fun w h Y => PySem.W.kIn_of Y) ?F
  case F =>
    intro w mg fa h KX G hmg
    refine' PW.K68.all_mk KX G hmg ?m_spans ?l_spans ?c_spans ?k_spans ?m_ends_of ?l_ends_of ?c_ends_of ?k_ends_of ?m_tree ?l_tree ?c_tree ?k_tree ?m_grows ?l_grows ?c_grows ?k_grows ?m_word_of ?l_word_of ?c_word_of ?k_word_of ?m_is_tree ?l_is_tree ?c_is_tree ?k_is_tree ?m_judge_tree ?l_judge_tree ?c_judge_tree ?k_judge_tree ?m__law_mixed ?l__law_mixed ?c__law_mixed ?k__law_mixed ?m__law_rest ?l__law_rest ?c__law_rest ?k__law_rest ?m__law_pool ?l__law_pool ?c__law_pool ?k__law_pool ?m__law_next ?l__law_next ?c__law_next ?k__law_next ?m__law_draw ?l__law_draw ?c__law_draw ?k__law_draw ?m__law_pick ?l__law_pick ?c__law_pick ?k__law_pick ?m__law_same ?l__law_same ?c__law_same ?k__law_same ?m__law_copied ?l__law_copied ?c__law_copied ?k__law_copied ?m__law_different ?l__law_different ?c__law_different ?k__law_different ?m__law_grammar_drawn ?l__law_grammar_drawn ?c__law_grammar_drawn ?k__law_grammar_drawn ?m__law_spans ?l__law_spans ?c__law_spans ?k__law_spans ?m__law_is_tree ?l__law_is_tree ?c__law_is_tree ?k__law_is_tree ?m__law_word_of ?l__law_word_of ?c__law_word_of ?k__law_word_of ?m__law_bent ?l__law_bent ?c__law_bent ?k__law_bent ?m_law ?l_law ?c_law ?k_law ?z_all ?z_bool ?z_dict ?z_int ?z_isinstance ?z_len ?z_list ?z_range ?z_sorted ?z_str ?z_tuple ?g_LETTERS
    (case m_spans => k_is)
    (case l_spans => k_is)
    (case c_spans => k_is)
    (case k_spans => k_is)
    (case m_ends_of => k_is)
    (case l_ends_of => k_is)
    (case c_ends_of => k_is)
    (case k_ends_of => k_is)
    (case m_tree => k_is)
    (case l_tree => k_is)
    (case c_tree => k_is)
    (case k_tree => k_is)
    (case m_grows => k_is)
    (case l_grows => k_is)
    (case c_grows => k_is)
    (case k_grows => k_is)
    (case m_word_of => k_is)
    (case l_word_of => k_is)
    (case c_word_of => k_is)
    (case k_word_of => k_is)
    (case m_is_tree => k_is)
    (case l_is_tree => k_is)
    (case c_is_tree => k_is)
    (case k_is_tree => k_is)
    (case m_judge_tree => k_is)
    (case l_judge_tree => k_is)
    (case c_judge_tree => k_is)
    (case k_judge_tree => k_is)
    (case m__law_mixed => k_is)
    (case l__law_mixed => k_is)
    (case c__law_mixed => k_is)
    (case k__law_mixed => k_is)
    (case m__law_rest => k_is)
    (case l__law_rest => k_is)
    (case c__law_rest => k_is)
    (case k__law_rest => k_is)
    (case m__law_pool => k_is)
    (case l__law_pool => k_is)
    (case c__law_pool => k_is)
    (case k__law_pool => k_is)
    (case m__law_next => k_is)
    (case l__law_next => k_is)
    (case c__law_next => k_is)
    (case k__law_next => k_is)
    (case m__law_draw => k_is)
    (case l__law_draw => k_is)
    (case c__law_draw => k_is)
    (case k__law_draw => k_is)
    (case m__law_pick => k_is)
    (case l__law_pick => k_is)
    (case c__law_pick => k_is)
    (case k__law_pick => k_is)
    (case m__law_same => k_is)
    (case l__law_same => k_is)
    (case c__law_same => k_is)
    (case k__law_same => k_is)
    (case m__law_copied => k_is)
    (case l__law_copied => k_is)
    (case c__law_copied => k_is)
    (case k__law_copied => k_is)
    (case m__law_different => k_is)
    (case l__law_different => k_is)
    (case c__law_different => k_is)
    (case k__law_different => k_is)
    (case m__law_grammar_drawn => k_is)
    (case l__law_grammar_drawn => k_is)
    (case c__law_grammar_drawn => k_is)
    (case k__law_grammar_drawn => k_is)
    (case m__law_spans => k_is)
    (case l__law_spans => k_is)
    (case c__law_spans => k_is)
    (case k__law_spans => k_is)
    (case m__law_is_tree => k_is)
    (case l__law_is_tree => k_is)
    (case c__law_is_tree => k_is)
    (case k__law_is_tree => k_is)
    (case m__law_word_of => k_is)
    (case l__law_word_of => k_is)
    (case c__law_word_of => k_is)
    (case k__law_word_of => k_is)
    (case m__law_bent => k_is)
    (case l__law_bent => k_is)
    (case c__law_bent => k_is)
    (case k__law_bent => k_is)
    (case m_law => k_is)
    (case l_law => k_is)
    (case c_law => k_is)
    (case k_law => k_is)
    (case z_all => k_is)
    (case z_bool => k_is)
    (case z_dict => k_is)
    (case z_int => k_is)
    (case z_isinstance => k_is)
    (case z_len => k_is)
    (case z_list => k_is)
    (case z_range => k_is)
    (case z_sorted => k_is)
    (case z_str => k_is)
    (case z_tuple => k_is)
    (case g_LETTERS => k_is)
