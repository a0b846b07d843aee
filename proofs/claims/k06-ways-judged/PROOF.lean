import PyProof.Rows.All
import Wide.All
import OpenK.AllK
import Wide.FinOn
import HandS.ForMost
import HandS.Exc
import HandS.TupAny
import HandS.Flow
import HandS.CallSlots
import HandS.WordsExc
import HandS.ExcOwn
import HandS.Defaults
import HandS.Wide
import HandS.Deep
import HandS.Style
import HandS.IsInst
import HandS.TupMul
import HandS.Comp
import HandS.Iter
import HandS.OwnEq
import HandS.TupSets
import HandS.SortRule
import KE.LtSeq
import HandS.Star
import HandS.HeadHook4
import HandS.Head0
import HandS.Head1
import HandS.Head2
import HandS.HeadEnd
import HandS.DictComp
import HandS.ExcInit
import HandS.ExcField
import HandS.ExcIs
import KE.KExcIs
import KE.KIsAll
import PyProof.Rows.ReprR
import HandS.FStr
import HandS.JoinGen
import PyProof.StrLawsRepr
import OpenK.KMeth
import KE.KExcInit
import KE.KIndexWalk
import HandS.HeadNt
import HandS.Spec
import PyProof.Rows.StrDigitsNeg
import PyProof.Rows.StrJoinMade
import PySem.Challenge.RW_pathmodes_k06_ways_judged
set_option Elab.async false
set_option linter.all false
set_option maxRecDepth 100000
set_option maxHeartbeats 2000000
/-! Q0: deep data, mutable cells, what a piece of syntax does as a Lean function -/
namespace Pm
open PySem L2

/-- deep data -/
inductive D where
  | non | bl (b : Bool) | int (i : Int) | str (x : Str)
  | tup (xs : List D) | lst (xs : List D) | obj (c : Nat) (fs : List (Str × D))
  | ty (n : String) | cls (c : Nat) | scr (xs : List D) | dk (ks : List Str)
  deriving Inhabited

/-- what a cell holds, what is handed on: data, a cell -/
inductive W where
  | d (x : D) | loc (i : Nat)
  deriving Inhabited

/-- what may be changed -/
inductive Cell where
  | lst (xs : List W) | ins (c : Nat) (fs : List (Str × W))
  deriving Inhabited

/-- what a name holds: nothing, a value, the error at hand -/
inductive Sl where
  | no | w (x : W) | ex (c : Nat) (fs : List (Str × D))
  deriving Inhabited

/-- what an expression gives: data, a cell, a fresh cell, the error at hand -/
inductive Res where
  | d (x : D) | loc (i : Nat) | new (c : Cell) | ex (c : Nat) (fs : List (Str × D))
  deriving Inhabited

structure Exc where
  c : Nat
  fs : List (Str × D)
  deriving Inhabited

/-- the names, the cells, how many cells there were at the def's entry -/
structure S where
  sl : List Sl
  M : List (Option Cell)
  b : Nat
  deriving Inhabited

inductive Out (α : Type) where
  | ok (a : α) | exc (x : Exc)
  deriving Inhabited

abbrev Ev (α : Type) := S → Option (Out α × S)

/-- the classes' places; the error at hand -/
structure Cl where
  at_ : Nat → Addr
  xa : Addr := 0
  xd : Addr := 0

mutual
inductive Rep (K : PySem.W.Frag) (g : Nat → Addr) (F : Hp) : D → V → Prop
  | non : Rep K g F .non .non
  | bl (b : Bool) : Rep K g F (.bl b) (.bl b)
  | int (i : Int) : Rep K g F (.int i) (.int i)
  | str (x : Str) : Rep K g F (.str x) (.str x)
  | ty (n : String) : Rep K g F (.ty n) (.ty n)
  | cls (c : Nat) : Rep K g F (.cls c) (.ref (g c))
  | tup {a : Addr} {ds : List D} {vs : List V} : SqT K F a vs → Reps K g F ds vs → Rep K g F (.tup ds) (.ref a)
  | lst {a : Addr} {ds : List D} {vs : List V} : F a = some (.lst vs) → Reps K g F ds vs → Rep K g F (.lst ds) (.ref a)
  | scr {a : Addr} {ds : List D} {vs : List V} : SqL K F a vs → Reps K g F ds vs → Rep K g F (.scr ds) (.ref a)
  | obj {a dx : Addr} {c : Nat} {fs : List (Str × D)} {vs : List (Str × V)} : F a = some (.ins (g c) dx vs) → F dx = some (.own a) → RepF K g F fs vs → Rep K g F (.obj c fs) (.ref a)
  | dk {a : Addr} {ks : List Str} : F a = some (.dK (ks.map fun k => (Sum.inr k, V.bl true))) → Rep K g F (.dk ks) (.ref a)
inductive Reps (K : PySem.W.Frag) (g : Nat → Addr) (F : Hp) : List D → List V → Prop
  | nil : Reps K g F [] []
  | cons {d : D} {v : V} {ds : List D} {vs : List V} : Rep K g F d v → Reps K g F ds vs → Reps K g F (d :: ds) (v :: vs)
inductive RepF (K : PySem.W.Frag) (g : Nat → Addr) (F : Hp) : List (Str × D) → List (Str × V) → Prop
  | nil : RepF K g F [] []
  | cons {n : Str} {d : D} {v : V} {ds : List (Str × D)} {vs : List (Str × V)} : Rep K g F d v → RepF K g F ds vs → RepF K g F ((n, d) :: ds) ((n, v) :: vs)
end

/-- all of the one stands in the other -/
def Sub (F F' : Hp) : Prop := ∀ a o, F a = some o → F' a = some o
theorem Sub.refl (F : Hp) : Sub F F := fun _ _ h => h
theorem Sub.trans {A B C : Hp} (h : Sub A B) (k : Sub B C) : Sub A C := fun a o e => k a o (h a o e)
theorem Sub.none {A B : Hp} (h : Sub A B) {a : Addr} (e : B a = Option.none) : A a = Option.none := by
  cases q : A a with
  | none => rfl
  | some o => rw [h a o q] at e; cases e
theorem Sub.upd {A B : Hp} (h : Sub A B) {p : Addr} {o : HO} (e : A p = Option.none) : Sub A (upd B p o) := fun a u q => by
  rw [upd_ne (ne_of_none q e)]; exact h a u q
theorem Sub.new {A : Hp} {p : Addr} {o : HO} (e : A p = Option.none) : Sub A (L2.upd A p o) := (Sub.refl A).upd e
theorem sub_rd {F F' : Hp} {a : Addr} {u : HO} (h : Sub F F') (r : Rd F a u) : Rd F' a u := by
  rcases r with r | ⟨o, r⟩
  · exact .inl (h _ _ r)
  · exact .inr ⟨o, h _ _ r⟩
theorem sub_l {K : PySem.W.Frag} {F F' : Hp} {a : Addr} {xs : List V} (h : Sub F F') (r : SqL K F a xs) : SqL K F' a xs := by
  rcases r with r | r
  · exact .inl (sub_rd h r)
  · exact .inr r
theorem sub_t {K : PySem.W.Frag} {F F' : Hp} {a : Addr} {xs : List V} (h : Sub F F') (r : SqT K F a xs) : SqT K F' a xs := by
  rcases r with r | r
  · exact .inl (sub_rd h r)
  · exact .inr r

section
variable {K : PySem.W.Frag} {g : Nat → Addr} {F F' : Hp}
mutual
theorem Rep.mono (h : Sub F F') {d : D} {v : V} : Rep K g F d v → Rep K g F' d v
  | .non => .non
  | .bl b => .bl b
  | .int i => .int i
  | .str x => .str x
  | .ty n => .ty n
  | .cls c => .cls c
  | .tup s r => .tup (sub_t h s) (Reps.mono h r)
  | .lst s r => .lst (h _ _ s) (Reps.mono h r)
  | .scr s r => .scr (sub_l h s) (Reps.mono h r)
  | .obj a b r => .obj (h _ _ a) (h _ _ b) (RepF.mono h r)
  | .dk s => .dk (h _ _ s)
theorem Reps.mono (h : Sub F F') {ds : List D} {vs : List V} : Reps K g F ds vs → Reps K g F' ds vs
  | .nil => .nil
  | .cons a r => .cons (Rep.mono h a) (Reps.mono h r)
theorem RepF.mono (h : Sub F F') {ds : List (Str × D)} {vs : List (Str × V)} : RepF K g F ds vs → RepF K g F' ds vs
  | .nil => .nil
  | .cons a r => .cons (Rep.mono h a) (RepF.mono h r)
end
theorem Reps.length : ∀ {ds : List D} {vs : List V}, Reps K g F ds vs → ds.length = vs.length
  | _, _, .nil => rfl
  | _, _, .cons _ r => by simp [Reps.length r]
theorem Reps.get : ∀ {ds : List D} {vs : List V} {i : Nat} {d : D}, Reps K g F ds vs → ds[i]? = some d → ∃ v, vs[i]? = some v ∧ Rep K g F d v
  | _, _, _, _, .nil, e => by simp at e
  | _, _, 0, _, .cons r _, e => by simp at e; subst e; exact ⟨_, rfl, r⟩
  | _, _, i + 1, d, .cons _ t, e => by
    obtain ⟨v, h1, h2⟩ := Reps.get (i := i) (d := d) t (by simpa using e)
    exact ⟨v, by simpa using h1, h2⟩
theorem Reps.get' : ∀ {ds : List D} {vs : List V} {i : Nat} {v : V}, Reps K g F ds vs → vs[i]? = some v → ∃ d, ds[i]? = some d ∧ Rep K g F d v
  | _, _, _, _, .nil, e => by simp at e
  | _, _, 0, _, .cons r _, e => by simp at e; subst e; exact ⟨_, rfl, r⟩
  | _, _, i + 1, v, .cons _ t, e => by
    obtain ⟨d, h1, h2⟩ := Reps.get' (i := i) (v := v) t (by simpa using e)
    exact ⟨d, by simpa using h1, h2⟩
theorem Reps.append : ∀ {ds es : List D} {vs us : List V}, Reps K g F ds vs → Reps K g F es us → Reps K g F (ds ++ es) (vs ++ us)
  | _, _, _, _, .nil, s => s
  | _, _, _, _, .cons r t, s => .cons r (Reps.append t s)
theorem Reps.set {d : D} {v : V} (r : Rep K g F d v) : ∀ {ds : List D} {vs : List V} (i : Nat), Reps K g F ds vs → Reps K g F (ds.set i d) (vs.set i v)
  | _, _, _, .nil => .nil
  | _, _, 0, .cons _ t => .cons r t
  | _, _, i + 1, .cons q t => .cons q (Reps.set r i t)
theorem Reps.take : ∀ {ds : List D} {vs : List V} (n : Nat), Reps K g F ds vs → Reps K g F (ds.take n) (vs.take n)
  | _, _, 0, _ => .nil
  | _, _, _ + 1, .nil => .nil
  | _, _, n + 1, .cons r t => .cons r (Reps.take n t)
theorem Reps.drop : ∀ {ds : List D} {vs : List V} (n : Nat), Reps K g F ds vs → Reps K g F (ds.drop n) (vs.drop n)
  | _, _, 0, r => r
  | _, _, _ + 1, .nil => .nil
  | _, _, n + 1, .cons _ t => Reps.drop n t
theorem RepF.lookup {f : Str} : ∀ {ds : List (Str × D)} {vs : List (Str × V)} {d : D}, RepF K g F ds vs → ds.lookup f = some d → ∃ v, vs.lookup f = some v ∧ Rep K g F d v
  | _, _, _, .nil, e => by simp [List.lookup] at e
  | (n, d0) :: ds, (_, v0) :: vs, d, .cons r t, e => by
    simp only [List.lookup] at e ⊢
    cases q : f == n with
    | true => rw [q] at e; cases e; exact ⟨_, rfl, r⟩
    | false => rw [q] at e; exact RepF.lookup t e
theorem RepF.lookup_none {f : Str} : ∀ {ds : List (Str × D)} {vs : List (Str × V)}, RepF K g F ds vs → ds.lookup f = none → vs.lookup f = none
  | _, _, .nil, _ => rfl
  | (n, d0) :: ds, (_, v0) :: vs, .cons r t, e => by
    simp only [List.lookup] at e ⊢
    cases q : f == n with
    | true => rw [q] at e; cases e
    | false => rw [q] at e; exact RepF.lookup_none t e
theorem RepF.length : ∀ {ds : List (Str × D)} {vs : List (Str × V)}, RepF K g F ds vs → ds.length = vs.length
  | _, _, .nil => rfl
  | _, _, .cons _ r => by simp [RepF.length r]
end

/-- a field stored -/
def putW (f : Str) (w : W) : List (Str × W) → List (Str × W)
  | [] => [(f, w)]
  | (n, e) :: r => if n = f then (n, w) :: r else (n, e) :: putW f w r

def W.below (b : Nat) : W → Prop
  | .d _ => True
  | .loc j => j < b
def Cell.below (b : Nat) : Cell → Prop
  | .lst ws => ∀ w ∈ ws, w.below b
  | .ins _ fs => ∀ p ∈ fs, p.2.below b

section
variable (K : PySem.W.Frag) (g : Nat → Addr) (R F : Hp)
def RepW (L : List Addr) : W → V → Prop
  | .d x, v => Rep K g F x v
  | .loc i, v => ∃ a, L[i]? = some a ∧ v = .ref a
inductive RepWs (L : List Addr) : List W → List V → Prop
  | nil : RepWs L [] []
  | cons {w : W} {v : V} {ws : List W} {vs : List V} : RepW K g F L w v → RepWs L ws vs → RepWs L (w :: ws) (v :: vs)
inductive RepWF (L : List Addr) : List (Str × W) → List (Str × V) → Prop
  | nil : RepWF L [] []
  | cons {n : Str} {w : W} {v : V} {ws : List (Str × W)} {vs : List (Str × V)} : RepW K g F L w v → RepWF L ws vs → RepWF L ((n, w) :: ws) ((n, v) :: vs)
def RepC (L : List Addr) (H : Hp) (a : Addr) : Cell → Prop
  | .lst ws => F a = none ∧ R a = none ∧ ∃ vs, H a = some (.lst vs) ∧ RepWs K g F L ws vs
  | .ins c fs => F a = none ∧ R a = none ∧ ∃ dx vs, H a = some (.ins (g c) dx vs) ∧ H dx = some (.own a) ∧ F dx = none ∧ R dx = none ∧ RepWF K g F L fs vs
/-- the frozen part, the cells, what must stay -/
structure Rel (L : List Addr) (M : List (Option Cell)) (H : Hp) : Prop where
  fh : Sub F H
  rh : Sub R H
  fr : ∀ a o, R a = some o → F a = none
  il : L.length = M.length
  ce : ∀ (i : Nat) (c : Cell), M[i]? = some (some c) → ∃ a, L[i]? = some a ∧ RepC K g R F L H a c
  nd : ∀ (i j : Nat) (c d : Cell) (a : Addr), M[i]? = some (some c) → M[j]? = some (some d) → L[i]? = some a → L[j]? = some a → i = j
end
section
variable (K : PySem.W.Frag) (G : Cl) (R F : Hp)
def RepR (L : List Addr) (M : List (Option Cell)) (H : Hp) : Res → V → Prop
  | .d x, v => Rep K G.at_ F x v
  | .loc i, v => ∃ a, L[i]? = some a ∧ v = .ref a
  | .new c, v => ∃ a, v = .ref a ∧ RepC K G.at_ R F L H a c ∧ ∀ (i : Nat) (c' : Cell), M[i]? = some (some c') → L[i]? ≠ some a
  | .ex c fs, v => v = .ref G.xa ∧ ∃ vs, F G.xd = some (.xd vs) ∧ RepF K G.at_ F fs vs
def RepSl (L : List Addr) (σ : L2.St) (i : Nat) : Sl → Prop
  | .no => True
  | .w w => ∃ v, σ[i]? = some (some v) ∧ RepW K G.at_ F L w v
  | .ex c fs => σ[i]? = some (some (.ref G.xa)) ∧ ∃ vs, F G.xd = some (.xd vs) ∧ RepF K G.at_ F fs vs
structure Ok (L : List Addr) (st : S) (σ : L2.St) (H : Hp) : Prop where
  rel : Rel K G.at_ R F L st.M H
  len : st.sl.length = σ.length
  sl : ∀ (i : Nat) (x : Sl), st.sl[i]? = some x → RepSl K G F L σ i x
end

/-- later: more is frozen, more cells have been -/
structure Ext (F F' : Hp) (L L' : List Addr) : Prop where
  f : Sub F F'
  l : L <+: L'
theorem Ext.refl (F : Hp) (L : List Addr) : Ext F F L L := ⟨.refl F, List.prefix_rfl⟩
theorem Ext.frz {F F' : Hp} {L : List Addr} (h : Sub F F') : Ext F F' L L := ⟨h, List.prefix_rfl⟩
theorem Ext.trans {F F' F'' : Hp} {L L' L'' : List Addr} (a : Ext F F' L L') (b : Ext F' F'' L' L'') : Ext F F'' L L'' := ⟨a.f.trans b.f, a.l.trans b.l⟩
theorem prefix_get {L L' : List Addr} {i : Nat} {a : Addr} (h : L <+: L') (e : L[i]? = some a) : L'[i]? = some a := by
  obtain ⟨t, rfl⟩ := h
  rw [List.getElem?_append_left (List.getElem?_eq_some_iff.mp e).1]; exact e
theorem Ext.get {F F' : Hp} {L L' : List Addr} (x : Ext F F' L L') {i : Nat} {a : Addr} (e : L[i]? = some a) : L'[i]? = some a := prefix_get x.l e
section
variable {K : PySem.W.Frag} {g : Nat → Addr} {G : Cl} {R F F' : Hp} {L L' : List Addr}
theorem RepW.ext (x : Ext F F' L L') {w : W} {v : V} (r : RepW K g F L w v) : RepW K g F' L' w v := by
  cases w with
  | d y => exact Rep.mono x.f r
  | loc i => obtain ⟨a, e, h⟩ := r; exact ⟨a, x.get e, h⟩
theorem RepWs.ext (x : Ext F F' L L') : ∀ {ws : List W} {vs : List V}, RepWs K g F L ws vs → RepWs K g F' L' ws vs
  | _, _, .nil => .nil
  | _, _, .cons r t => .cons (r.ext x) (RepWs.ext x t)
theorem RepWF.ext (x : Ext F F' L L') : ∀ {ws : List (Str × W)} {vs : List (Str × V)}, RepWF K g F L ws vs → RepWF K g F' L' ws vs
  | _, _, .nil => .nil
  | _, _, .cons r t => .cons (r.ext x) (RepWF.ext x t)
theorem RepSl.ext (x : Ext F F' L L') {σ : L2.St} {i : Nat} {s : Sl} (r : RepSl K G F L σ i s) : RepSl K G F' L' σ i s := by
  cases s with
  | no => trivial
  | w w => obtain ⟨v, e, q⟩ := r; exact ⟨v, e, q.ext x⟩
  | ex c fs => obtain ⟨h, vs, e, q⟩ := r; exact ⟨h, vs, x.f _ _ e, q.mono x.f⟩
theorem RepW.below {w : W} {v : V} (r : RepW K g F L w v) : w.below L.length := by
  cases w with
  | d y => trivial
  | loc i => obtain ⟨a, e, h⟩ := r; exact (List.getElem?_eq_some_iff.mp e).1
theorem RepWs.bel : ∀ {ws : List W} {vs : List V}, RepWs K g F L ws vs → ∀ w ∈ ws, w.below L.length
  | _, _, .cons r t, w, h => by
    rcases List.mem_cons.mp h with rfl | h
    · exact r.below
    · exact RepWs.bel t w h
theorem RepWF.bel : ∀ {ws : List (Str × W)} {vs : List (Str × V)}, RepWF K g F L ws vs → ∀ p ∈ ws, p.2.below L.length
  | _, _, .cons r t, w, h => by
    rcases List.mem_cons.mp h with rfl | h
    · exact r.below
    · exact RepWF.bel t w h
theorem RepC.below {H : Hp} {a : Addr} {c : Cell} (r : RepC K g R F L H a c) : c.below L.length := by
  cases c with
  | lst ws => obtain ⟨_, _, vs, _, q⟩ := r; exact q.bel
  | ins c fs => obtain ⟨_, _, dx, vs, _, _, _, _, q⟩ := r; exact q.bel
theorem RepWs.length : ∀ {ds : List W} {vs : List V}, RepWs K g F L ds vs → ds.length = vs.length
  | _, _, .nil => rfl
  | _, _, .cons _ r => by simp [RepWs.length r]
theorem RepWs.get : ∀ {ds : List W} {vs : List V} {i : Nat} {d : W}, RepWs K g F L ds vs → ds[i]? = some d → ∃ v, vs[i]? = some v ∧ RepW K g F L d v
  | _, _, _, _, .nil, e => by simp at e
  | _, _, 0, _, .cons r _, e => by simp at e; subst e; exact ⟨_, rfl, r⟩
  | _, _, i + 1, d, .cons _ t, e => by
    obtain ⟨v, h1, h2⟩ := RepWs.get (i := i) (d := d) t (by simpa using e)
    exact ⟨v, by simpa using h1, h2⟩
theorem RepWs.append : ∀ {ds es : List W} {vs us : List V}, RepWs K g F L ds vs → RepWs K g F L es us → RepWs K g F L (ds ++ es) (vs ++ us)
  | _, _, _, _, .nil, s => s
  | _, _, _, _, .cons r t, s => .cons r (RepWs.append t s)
theorem RepWs.set {d : W} {v : V} (r : RepW K g F L d v) : ∀ {ds : List W} {vs : List V} (i : Nat), RepWs K g F L ds vs → RepWs K g F L (ds.set i d) (vs.set i v)
  | _, _, _, .nil => .nil
  | _, _, 0, .cons _ t => .cons r t
  | _, _, i + 1, .cons q t => .cons q (RepWs.set r i t)
theorem RepWF.lookup {f : Str} : ∀ {ds : List (Str × W)} {vs : List (Str × V)} {d : W}, RepWF K g F L ds vs → ds.lookup f = some d → ∃ v, vs.lookup f = some v ∧ RepW K g F L d v
  | _, _, _, .nil, e => by simp [List.lookup] at e
  | (n, d0) :: ds, (_, v0) :: vs, d, .cons r t, e => by
    simp only [List.lookup] at e ⊢
    cases q : f == n with
    | true => rw [q] at e; cases e; exact ⟨_, rfl, r⟩
    | false => rw [q] at e; exact RepWF.lookup t e
theorem RepWF.lookup_none {f : Str} : ∀ {ds : List (Str × W)} {vs : List (Str × V)}, RepWF K g F L ds vs → ds.lookup f = none → vs.lookup f = none
  | _, _, .nil, _ => rfl
  | (n, d0) :: ds, (_, v0) :: vs, .cons r t, e => by
    simp only [List.lookup] at e ⊢
    cases q : f == n with
    | true => rw [q] at e; cases e
    | false => rw [q] at e; exact RepWF.lookup_none t e
theorem RepWF.length : ∀ {ds : List (Str × W)} {vs : List (Str × V)}, RepWF K g F L ds vs → ds.length = vs.length
  | _, _, .nil => rfl
  | _, _, .cons _ r => by simp [RepWF.length r]
theorem RepWF.put {f : Str} {w : W} {v : V} (r : RepW K g F L w v) : ∀ {ds : List (Str × W)} {vs : List (Str × V)}, RepWF K g F L ds vs → RepWF K g F L (putW f w ds) (putF f v vs)
  | _, _, .nil => .cons r .nil
  | (n, d0) :: ds, (_, v0) :: vs, .cons q t => by
    unfold putW putF
    by_cases h : n = f
    · rw [if_pos h, if_pos h]; exact .cons r t
    · rw [if_neg h, if_neg h]; exact .cons q (RepWF.put r t)
end

/-! ### monad -/
def Ev.pure {α : Type} (a : α) : Ev α := fun st => some (.ok a, st)
def Ev.fail {α : Type} : Ev α := fun _ => none
def Ev.bind {α β : Type} (f : Ev α) (k : α → Ev β) : Ev β := fun st => match f st with
  | none => none
  | some (.exc x, st') => some (.exc x, st')
  | some (.ok a, st') => k a st'
def Ev.lift {α : Type} (o : Option α) : Ev α := fun st => match o with
  | none => none
  | some a => some (.ok a, st)

/-! ### closing cells -/
def W.dat : W → Option D
  | .d x => some x
  | .loc _ => none
def dats : List W → Option (List D)
  | [] => some []
  | .d x :: r => (dats r).map (x :: ·)
  | .loc _ :: _ => none
def datsF : List (Str × W) → Option (List (Str × D))
  | [] => some []
  | (n, .d x) :: r => (datsF r).map ((n, x) :: ·)
  | (_, .loc _) :: _ => none
/-- a cell as data, where it holds no cell -/
def Cell.frz : Cell → Option D
  | .lst ws => (dats ws).map .lst
  | .ins c fs => (datsF fs).map (.obj c)
def thaw (i : Nat) (x : D) : W → W
  | .loc j => if j = i then .d x else .loc j
  | .d y => .d y
def Sl.thaw (i : Nat) (x : D) : Sl → Sl
  | .no => .no
  | .w y => .w (Pm.thaw i x y)
  | .ex c fs => .ex c fs
def Cell.thaw (i : Nat) (x : D) : Cell → Cell
  | .lst ws => .lst (ws.map (Pm.thaw i x))
  | .ins c fs => .ins c (fs.map fun p => (p.1, Pm.thaw i x p.2))
/-- the cell is closed: what held it holds its data -/
def close1 (i : Nat) (st : S) : Option (D × S) := match st.M[i]? with
  | some (some c) => match c.frz with
    | some x => some (x, ⟨st.sl.map (Sl.thaw i x), (st.M.set i none).map (Option.map (Cell.thaw i x)), st.b⟩)
    | none => none
  | _ => none
def closeAll : List W → S → Option S
  | [], st => some st
  | .d _ :: r, st => closeAll r st
  | .loc j :: r, st => match close1 j st with
    | some (_, st') => closeAll r st'
    | none => none
def inner : Cell → List W
  | .lst ws => ws
  | .ins _ fs => fs.map (·.2)
/-- .. and first what stands in it -/
def close (i : Nat) (st : S) : Option (D × S) := match st.M[i]? with
  | some (some c) => match c.frz with
    | some _ => close1 i st
    | none => match closeAll (inner c) st with
      | some st' => close1 i st'
      | none => none
  | _ => none
/-- the value as data; a cell is closed -/
def toD : Res → Ev D
  | .d x => fun st => some (.ok x, st)
  | .new c => fun st => match c.frz with
    | some x => some (.ok x, st)
    | none => none
  | .loc i => fun st => match close i st with
    | some (x, st') => some (.ok x, st')
    | none => none
  | .ex _ _ => fun _ => none
def evD (f : Ev Res) : Ev D := f.bind toD

/-! ### what an outcome asks -/
section
variable (K : PySem.W.Frag) (G : Cl) (Wx : WX) (R F : Hp) (L : List Addr) (σ : L2.St)
def OutX (x : Exc) (st : S) : Prop := ∀ F' L' H' dd vs, Ext F F' L L' → Ok K G R F' L' st σ H' → F' dd = some (.xd vs) → RepF K G.at_ F' x.fs vs → Wx (.ref (G.at_ x.c)) (some dd) σ H'
/-- P: what is asked of an answer, at all that comes later -/
def OutP {α : Type} (P : α → S → Hp → List Addr → Hp → Prop) : Option (Out α × S) → Prop
  | none => False
  | some (.exc x, st) => OutX K G Wx R F L σ x st
  | some (.ok r, st) => ∀ F' L' H', Ext F F' L L' → Ok K G R F' L' st σ H' → P r st F' L' H'
abbrev OutE (Q : VK) : Option (Out Res × S) → Prop := OutP K G Wx R F L σ fun r st F' L' H' => ∀ v, RepR K G R F' L' st.M H' r v → Q v H'
abbrev OutD (Q : VK) : Option (Out D × S) → Prop := OutP K G Wx R F L σ fun d _ F' _ H' => ∀ v, Rep K G.at_ F' d v → Q v H'
abbrev OutB (Q : Bool → Hp → Prop) : Option (Out Bool × S) → Prop := OutP K G Wx R F L σ fun b _ _ _ H' => Q b H'
abbrev OutA (Q : List V → Hp → Prop) : Option (Out (List W) × S) → Prop := OutP K G Wx R F L σ fun ws _ F' L' H' => ∀ vs, RepWs K G.at_ F' L' ws vs → Q vs H'
end
section
variable {K : PySem.W.Frag} {G : Cl} {Wx : WX} {R F F' : Hp} {L L' : List Addr} {σ : L2.St}
theorem OutX.ext (x : Ext F F' L L') {e : Exc} {st : S} (h : OutX K G Wx R F L σ e st) : OutX K G Wx R F' L' σ e st :=
  fun F2 L2 H2 dd vs y ok hd r => h F2 L2 H2 dd vs (x.trans y) ok hd r
theorem OutP.ext (x : Ext F F' L L') {α : Type} {P : α → S → Hp → List Addr → Hp → Prop} {o : Option (Out α × S)} (h : OutP K G Wx R F L σ P o) : OutP K G Wx R F' L' σ P o := by
  cases o with
  | none => exact h
  | some p =>
    obtain ⟨out, st⟩ := p
    cases out with
    | exc e => exact OutX.ext x h
    | ok r => exact fun F2 L2 H2 y ok => h F2 L2 H2 (x.trans y) ok
/-- the first part of two -/
theorem OutP.bind {α β : Type} {f : Ev α} {k : α → Ev β} {st : S} {P : β → S → Hp → List Addr → Hp → Prop} {P' : α → S → Hp → List Addr → Hp → Prop} (h : OutP K G Wx R F L σ P (Ev.bind f k st))
    (q : ∀ a st1 F1 L1 H1, Ext F F1 L L1 → Ok K G R F1 L1 st1 σ H1 → OutP K G Wx R F1 L1 σ P (k a st1) → P' a st1 F1 L1 H1) : OutP K G Wx R F L σ P' (f st) := by
  unfold Ev.bind at h
  cases e : f st with
  | none => rw [e] at h; exact h
  | some p =>
    obtain ⟨out, st1⟩ := p
    rw [e] at h
    cases out with
    | exc x => exact h
    | ok a => exact fun F1 L1 H1 x1 ok1 => q a st1 F1 L1 H1 x1 ok1 (OutP.ext x1 h)
theorem OutP.imp {α : Type} {P P' : α → S → Hp → List Addr → Hp → Prop} {o : Option (Out α × S)} (h : OutP K G Wx R F L σ P o)
    (q : ∀ a st1 F1 L1 H1, Ext F F1 L L1 → Ok K G R F1 L1 st1 σ H1 → P a st1 F1 L1 H1 → P' a st1 F1 L1 H1) : OutP K G Wx R F L σ P' o := by
  cases o with
  | none => exact h
  | some p =>
    obtain ⟨out, st1⟩ := p
    cases out with
    | exc x => exact h
    | ok a => exact fun F1 L1 H1 x1 ok1 => q a st1 F1 L1 H1 x1 ok1 (h F1 L1 H1 x1 ok1)
end

/-! ### the judgements -/
def tE (K : PySem.W.Frag) (G : Cl) (Wx : WX) (f : Ev Res) : TE := fun σ H Q => ∃ R F L st, Ok K G R F L st σ H ∧ OutE K G Wx R F L σ Q (f st)
def tT (K : PySem.W.Frag) (G : Cl) (Wx : WX) (f : Ev Bool) : TT := fun σ H Q => ∃ R F L st, Ok K G R F L st σ H ∧ OutB K G Wx R F L σ Q (f st)
def tA (K : PySem.W.Frag) (G : Cl) (Wx : WX) (f : Ev (List W)) : TA := fun σ H Q => ∃ R F L st, Ok K G R F L st σ H ∧ OutA K G Wx R F L σ Q (f st)

/-- what a run leaves of the cells that were there at the def's entry: they hold no newer cells than before -/
def Le (st st' : S) : Prop := st'.b = st.b ∧ st.M.length ≤ st'.M.length ∧ ∀ (i : Nat) (c' : Cell), i < st.b → st'.M[i]? = some (some c') → ∃ c, st.M[i]? = some (some c) ∧ ∀ n, c.below n → c'.below n
theorem Le.refl (st : S) : Le st st := ⟨rfl, Nat.le_refl _, fun _ c _ e => ⟨c, e, fun _ h => h⟩⟩
theorem Le.trans {a b c : S} (h : Le a b) (k : Le b c) : Le a c := ⟨k.1.trans h.1, Nat.le_trans h.2.1 k.2.1, fun i c' hi e => by
  obtain ⟨c1, e1, q1⟩ := k.2.2 i c' (by rw [h.1]; exact hi) e
  obtain ⟨c2, e2, q2⟩ := h.2.2 i c1 hi e1
  exact ⟨c2, e2, fun n z => q1 n (q2 n z)⟩⟩
def Bel {α : Type} (f : Ev α) : Prop := ∀ st o st', st.b ≤ st.M.length → f st = some (o, st') → Le st st'
theorem Le.ok {st st' : S} (h : Le st st') (k : st.b ≤ st.M.length) : st'.b ≤ st'.M.length := by rw [h.1]; exact Nat.le_trans k h.2.1
theorem Bel.bind {α β : Type} {f : Ev α} {k : α → Ev β} (h : Bel f) (q : ∀ a, Bel (k a)) : Bel (Ev.bind f k) := fun st o st' hb e => by
  unfold Ev.bind at e
  cases e1 : f st with
  | none => rw [e1] at e; cases e
  | some p =>
    obtain ⟨out, st1⟩ := p
    rw [e1] at e
    have l1 := h st out st1 hb e1
    cases out with
    | exc x => cases e; exact l1
    | ok a => exact l1.trans (q a st1 o st' (l1.ok hb) e)
theorem Bel.same {α : Type} {f : Ev α} (h : ∀ st o st', f st = some (o, st') → st' = st) : Bel f := fun st o st' _ e => by rw [h st o st' e]; exact .refl _
theorem Bel.pure {α : Type} {a : α} : Bel (fun st => some (.ok a, st)) := .same fun st o st' e => by cases e; rfl
theorem Bel.pure' {α : Type} {a : α} : Bel (Ev.pure a) := .same fun st o st' e => by cases e; rfl
theorem Bel.fail {α : Type} : Bel (fun _ => none : Ev α) := .same fun st o st' e => by cases e
theorem Bel.fail' {α : Type} : Bel (Ev.fail : Ev α) := .same fun st o st' e => by cases e
theorem Bel.lift {α : Type} {o : Option α} : Bel (Ev.lift o) := .same fun st o' st' e => by
  unfold Ev.lift at e
  split at e <;> cases e; rfl
structure SE (X : Cx) (G : Cl) (Wx : WX) (e : Expr) (f : Ev Res) : Prop where
  pe : PE X e (tE X.K G Wx f)
  bel : Bel f
structure ST (X : Cx) (G : Cl) (Wx : WX) (e : Expr) (f : Ev Bool) : Prop where
  pt : PT X e (tT X.K G Wx f)
  bel : Bel f
structure SA (X : Cx) (G : Cl) (Wx : WX) (es : List Expr) (f : Ev (List W)) : Prop where
  pa : PA X es (tA X.K G Wx f)
  bel : Bel f

theorem PE_imp {X : Cx} {e : Expr} {t t' : TE} (h : PE X e t) (k : ∀ σ H Q, t' σ H Q → t σ H Q) : PE X e t' :=
  ⟨fun pins s σ H Q I hw => h.run pins s σ H Q I (k σ H Q hw)⟩
theorem PT_imp {X : Cx} {e : Expr} {t t' : TT} (h : PT X e t) (k : ∀ σ H Q, t' σ H Q → t σ H Q) : PT X e t' :=
  ⟨fun pins s σ H Q I hw => h.run pins s σ H Q I (k σ H Q hw)⟩
theorem PA_imp {X : Cx} {e : List Expr} {t t' : TA} (h : PA X e t) (k : ∀ σ H Q, t' σ H Q → t σ H Q) : PA X e t' :=
  ⟨fun pos pins s σ H Q I hw => h.run pos pins s σ H Q I (k σ H Q hw)⟩

/-! ### closing a cell is sound -/
/-- the frozen part with what stands at some places -/
def addL (F H : Hp) (l : List Addr) : Hp := fun b => if b ∈ l then H b else F b
theorem addL_in {F H : Hp} {l : List Addr} {b : Addr} (h : b ∈ l) : addL F H l b = H b := if_pos h
theorem addL_out {F H : Hp} {l : List Addr} {b : Addr} (h : b ∉ l) : addL F H l b = F b := if_neg h
theorem addL_sub {F H : Hp} {l : List Addr} (fh : Sub F H) : Sub F (addL F H l) := fun b o e => by
  by_cases q : b ∈ l
  · rw [addL_in q]; exact fh b o e
  · rw [addL_out q]; exact e
theorem addL_le {F H : Hp} {l : List Addr} (fh : Sub F H) : Sub (addL F H l) H := fun b o e => by
  by_cases q : b ∈ l
  · rw [addL_in q] at e; exact e
  · rw [addL_out q] at e; exact fh b o e
section
variable {K : PySem.W.Frag} {g : Nat → Addr} {G : Cl} {R F : Hp} {L : List Addr} {M M' : List (Option Cell)} {H : Hp}
theorem RepC.fNone {a : Addr} {c : Cell} (r : RepC K g R F L H a c) : F a = none := by cases c <;> exact r.1
theorem RepC.rNone {a : Addr} {c : Cell} (r : RepC K g R F L H a c) : R a = none := by cases c <;> exact r.2.1
theorem RepC.there {a : Addr} {c : Cell} (r : RepC K g R F L H a c) : ∃ o, H a = some o ∧ Mut (some o) := by
  cases c with
  | lst ds => obtain ⟨_, _, vs, h, _⟩ := r; exact ⟨_, h, trivial⟩
  | ins c fs => obtain ⟨_, _, dx, vs, h, _⟩ := r; exact ⟨_, h, trivial⟩
theorem RepC.noOwn {a y : Addr} {c : Cell} (r : RepC K g R F L H a c) : H a ≠ some (.own y) := fun e => by
  obtain ⟨o, h, m⟩ := r.there
  rw [h] at e; cases e; exact m
theorem dats_rep : ∀ {ws : List W} {vs : List V} {ds : List D}, RepWs K g F L ws vs → dats ws = some ds → Reps K g F ds vs
  | [], _, _, .nil, e => by cases e; exact .nil
  | .d x :: r, _, ds, .cons q t, e => by
    simp only [dats] at e
    obtain ⟨es, e1, rfl⟩ := Option.map_eq_some_iff.mp e
    exact .cons q (dats_rep t e1)
  | .loc _ :: _, _, _, _, e => by simp [dats] at e
theorem datsF_rep : ∀ {ws : List (Str × W)} {vs : List (Str × V)} {ds : List (Str × D)}, RepWF K g F L ws vs → datsF ws = some ds → RepF K g F ds vs
  | [], _, _, .nil, e => by cases e; exact .nil
  | (_, .d x) :: r, _, ds, .cons q t, e => by
    simp only [datsF] at e
    obtain ⟨es, e1, rfl⟩ := Option.map_eq_some_iff.mp e
    exact .cons q (datsF_rep t e1)
  | (_, .loc _) :: _, _, _, _, e => by simp [datsF] at e
/-- the places of a cell: frozen, they bear its data; all other cells stay -/
theorem RepC.foot {a : Addr} {c : Cell} {x : D} (fh : Sub F H) (r : RepC K g R F L H a c) (e : c.frz = some x) : ∃ l, a ∈ l ∧ (∀ b ∈ l, R b = none) ∧ Rep K g (addL F H l) x (.ref a) ∧
    ∀ b c', RepC K g R F L H b c' → b ≠ a → RepC K g R (addL F H l) L H b c' := by
  cases c with
  | lst ws =>
    obtain ⟨f0, r0, vs, h, q⟩ := r
    obtain ⟨ds, e1, rfl⟩ := Option.map_eq_some_iff.mp e
    refine ⟨[a], by simp, fun b hb => by simp at hb; rw [hb]; exact r0, .lst (by rw [addL_in (by simp)]; exact h) ((dats_rep q e1).mono (addL_sub fh)), fun b c' r' hab => ?_⟩
    have fb : addL F H [a] b = none := by rw [addL_out (by simpa using hab)]; exact r'.fNone
    have xx : Ext F (addL F H [a]) L L := .frz (addL_sub fh)
    cases c' with
    | lst ds' => obtain ⟨_, h2, vs', h', q'⟩ := r'; exact ⟨fb, h2, vs', h', q'.ext xx⟩
    | ins c' fs =>
      obtain ⟨_, h2, dx, vs', h', ho, f1, r1, q'⟩ := r'
      refine ⟨fb, h2, dx, vs', h', ho, ?_, r1, q'.ext xx⟩
      rw [addL_out]; exact f1
      intro z
      have z' : dx = a := by simpa using z
      rw [z', h] at ho; cases ho
  | ins c fs =>
    obtain ⟨f0, r0, dx, vs, h, ho, f1, r1, q⟩ := r
    obtain ⟨ds, e1, rfl⟩ := Option.map_eq_some_iff.mp e
    refine ⟨[a, dx], by simp, fun b hb => ?_, .obj (by rw [addL_in (by simp)]; exact h) (by rw [addL_in (by simp)]; exact ho) ((datsF_rep q e1).mono (addL_sub fh)), fun b c' r' hab => ?_⟩
    · rcases List.mem_cons.mp hb with e | e
      · rw [e]; exact r0
      · have e' : b = dx := by simpa using e
        rw [e']; exact r1
    have xx : Ext F (addL F H [a, dx]) L L := .frz (addL_sub fh)
    have hbd : b ≠ dx := fun z => by rw [z] at r'; exact r'.noOwn ho
    have fb : addL F H [a, dx] b = none := by rw [addL_out (by simp [hab, hbd])]; exact r'.fNone
    cases c' with
    | lst ds' => obtain ⟨_, h2, vs', h', q'⟩ := r'; exact ⟨fb, h2, vs', h', q'.ext xx⟩
    | ins c' fs' =>
      obtain ⟨_, h2, dy, vs', h', ho', f1', r1', q'⟩ := r'
      refine ⟨fb, h2, dy, vs', h', ho', ?_, r1', q'.ext xx⟩
      rw [addL_out]; exact f1'
      intro z
      rcases List.mem_cons.mp z with e | e
      · rw [e, h] at ho'; cases ho'
      · have e' : dy = dx := by simpa using e
        rw [e', ho] at ho'; cases ho'; exact hab rfl
/-- a fresh cell is frozen -/
theorem Rel.frzNew {a : Addr} {c : Cell} {x : D} (rel : Rel K g R F L M H) (r : RepC K g R F L H a c) (n : ∀ (i : Nat) (c' : Cell), M[i]? = some (some c') → L[i]? ≠ some a) (e : c.frz = some x) :
    ∃ F', Sub F F' ∧ Rep K g F' x (.ref a) ∧ Rel K g R F' L M H := by
  obtain ⟨l, ha, hr, rp, others⟩ := r.foot rel.fh e
  refine ⟨addL F H l, addL_sub rel.fh, rp, ⟨addL_le rel.fh, rel.rh, fun b o e => ?_, rel.il, fun i c' e => ?_, rel.nd⟩⟩
  · rw [addL_out]; exact rel.fr b o e
    intro z; rw [hr b z] at e; cases e
  · obtain ⟨b, hb, r'⟩ := rel.ce i c' e
    exact ⟨b, hb, others b c' r' fun z => n i c' e (z ▸ hb)⟩
theorem RepW.thaw {i : Nat} {a : Addr} {x : D} (ha : L[i]? = some a) (rx : Rep K g F x (.ref a)) {w : W} {v : V} (r : RepW K g F L w v) : RepW K g F L (Pm.thaw i x w) v := by
  cases w with
  | d y => exact r
  | loc j =>
    show RepW K g F L (if j = i then .d x else .loc j) v
    by_cases h : j = i
    · rw [if_pos h]
      obtain ⟨b, hb, rfl⟩ := r
      rw [h, ha] at hb; cases hb
      exact rx
    · rw [if_neg h]; exact r
theorem RepWs.thaw {i : Nat} {a : Addr} {x : D} (ha : L[i]? = some a) (rx : Rep K g F x (.ref a)) : ∀ {ws : List W} {vs : List V}, RepWs K g F L ws vs → RepWs K g F L (ws.map (Pm.thaw i x)) vs
  | _, _, .nil => .nil
  | _, _, .cons r t => .cons (r.thaw ha rx) (RepWs.thaw ha rx t)
theorem RepWF.thaw {i : Nat} {a : Addr} {x : D} (ha : L[i]? = some a) (rx : Rep K g F x (.ref a)) : ∀ {ws : List (Str × W)} {vs : List (Str × V)}, RepWF K g F L ws vs → RepWF K g F L (ws.map fun p => (p.1, Pm.thaw i x p.2)) vs
  | _, _, .nil => .nil
  | _, _, .cons r t => .cons (r.thaw ha rx) (RepWF.thaw ha rx t)
theorem RepC.thaw {i : Nat} {a b : Addr} {x : D} (ha : L[i]? = some a) (rx : Rep K g F x (.ref a)) {c : Cell} (r : RepC K g R F L H b c) : RepC K g R F L H b (c.thaw i x) := by
  cases c with
  | lst ws => obtain ⟨f0, r0, vs, h, q⟩ := r; exact ⟨f0, r0, vs, h, q.thaw ha rx⟩
  | ins c fs => obtain ⟨f0, r0, dx, vs, h, ho, f1, r1, q⟩ := r; exact ⟨f0, r0, dx, vs, h, ho, f1, r1, q.thaw ha rx⟩
theorem thaw_below {i b : Nat} {x : D} {w : W} (h : w.below b) : (Pm.thaw i x w).below b := by
  cases w with
  | d y => trivial
  | loc j =>
    show W.below b (if j = i then .d x else .loc j)
    by_cases e : j = i
    · rw [if_pos e]; trivial
    · rw [if_neg e]; exact h
theorem Cell.thaw_below {i b : Nat} {x : D} {c : Cell} (h : c.below b) : (c.thaw i x).below b := by
  cases c with
  | lst ws =>
    intro w hw
    obtain ⟨w0, h0, rfl⟩ := List.mem_map.mp hw
    exact Pm.thaw_below (h w0 h0)
  | ins c fs =>
    intro p hp
    obtain ⟨p0, h0, rfl⟩ := List.mem_map.mp hp
    exact Pm.thaw_below (h p0 h0)
theorem Ok.close1 {st st' : S} {σ : L2.St} {i : Nat} {x : D} {a : Addr} (ok : Ok K G R F L st σ H) (ha : L[i]? = some a) (h : Pm.close1 i st = some (x, st')) :
    ∃ F', Sub F F' ∧ Ok K G R F' L st' σ H ∧ Rep K G.at_ F' x (.ref a) := by
  unfold Pm.close1 at h
  split at h
  · rename_i c hc
    split at h
    · rename_i y ey
      cases h
      obtain ⟨b, hb, rc⟩ := ok.rel.ce i c hc
      rw [ha] at hb; cases hb
      obtain ⟨l, hal, hr, rp, others⟩ := rc.foot ok.rel.fh ey
      have xx : Ext F (addL F H l) L L := .frz (addL_sub ok.rel.fh)
      have back : ∀ (j : Nat) (c' : Cell), ((st.M.set i none).map (Option.map (Cell.thaw i x)))[j]? = some (some c') → ∃ c0, st.M[j]? = some (some c0) ∧ c' = c0.thaw i x ∧ j ≠ i := fun j c' e => by
        rw [List.getElem?_map] at e
        obtain ⟨o, e1, e2⟩ := Option.map_eq_some_iff.mp e
        obtain ⟨c0, rfl, e3⟩ := Option.map_eq_some_iff.mp e2
        have hj : j ≠ i := fun z => by
          subst z
          rw [List.getElem?_set_self (List.getElem?_eq_some_iff.mp hc).1] at e1; cases e1
        rw [List.getElem?_set_ne (Ne.symm hj)] at e1
        exact ⟨c0, e1, e3.symm, hj⟩
      refine ⟨addL F H l, addL_sub ok.rel.fh, ⟨⟨addL_le ok.rel.fh, ok.rel.rh, fun b o e => ?_, by simpa using ok.rel.il, fun j c' e => ?_, fun j k c1 c2 b e1 e2 => ?_⟩, by simpa using ok.len, fun j s e => ?_⟩, rp⟩
      · rw [addL_out]; exact ok.rel.fr b o e
        intro z; rw [hr b z] at e; cases e
      · obtain ⟨c0, e1, rfl, hj⟩ := back j c' e
        obtain ⟨b, hb, r'⟩ := ok.rel.ce j c0 e1
        exact ⟨b, hb, RepC.thaw ha rp (others b c0 r' fun z => hj (ok.rel.nd j i c0 c a e1 hc (z ▸ hb) ha))⟩
      · obtain ⟨d1, e1', _, _⟩ := back j c1 e1
        obtain ⟨d2, e2', _, _⟩ := back k c2 e2
        exact ok.rel.nd j k d1 d2 b e1' e2'
      · rw [List.getElem?_map] at e
        obtain ⟨s0, e1, rfl⟩ := Option.map_eq_some_iff.mp e
        have r0 := (ok.sl j s0 e1).ext xx
        cases s0 with
        | no => trivial
        | w w => obtain ⟨v, hv, rw0⟩ := r0; exact ⟨v, hv, rw0.thaw ha rp⟩
        | ex c fs => exact r0
    · cases h
  · cases h
theorem Ok.closeAll {σ : L2.St} : ∀ (ws : List W) {F : Hp} {st st' : S}, Ok K G R F L st σ H → (∀ w ∈ ws, w.below L.length) → Pm.closeAll ws st = some st' → ∃ F', Sub F F' ∧ Ok K G R F' L st' σ H
  | [], F, st, st', ok, _, h => by cases h; exact ⟨F, .refl F, ok⟩
  | .d _ :: r, F, st, st', ok, hb, h => Ok.closeAll r ok (fun w hw => hb w (List.mem_cons_of_mem _ hw)) h
  | .loc j :: r, F, st, st', ok, hb, h => by
    simp only [Pm.closeAll] at h
    split at h
    · rename_i x st1 e
      have hj : j < L.length := hb (.loc j) List.mem_cons_self
      obtain ⟨F1, h1, ok1, _⟩ := ok.close1 (List.getElem?_eq_getElem hj) e
      obtain ⟨F2, h2, ok2⟩ := Ok.closeAll r ok1 (fun w hw => hb w (List.mem_cons_of_mem _ hw)) h
      exact ⟨F2, h1.trans h2, ok2⟩
    · cases h
theorem Ok.close {st st' : S} {σ : L2.St} {i : Nat} {x : D} {a : Addr} (ok : Ok K G R F L st σ H) (ha : L[i]? = some a) (h : Pm.close i st = some (x, st')) :
    ∃ F', Sub F F' ∧ Ok K G R F' L st' σ H ∧ Rep K G.at_ F' x (.ref a) := by
  unfold Pm.close at h
  split at h
  · rename_i c hc
    split at h
    · exact ok.close1 ha h
    · split at h
      · rename_i st1 e
        obtain ⟨b, hb, rc⟩ := ok.rel.ce i c hc
        have bel : ∀ w ∈ inner c, w.below L.length := by
          have z := rc.below
          cases c with
          | lst ws => exact z
          | ins c fs =>
            intro w hw
            obtain ⟨p, hp, rfl⟩ := List.mem_map.mp hw
            exact z p hp
        obtain ⟨F1, h1, ok1⟩ := Ok.closeAll (inner c) ok bel e
        obtain ⟨F2, h2, ok2, r2⟩ := ok1.close1 ha h
        exact ⟨F2, h1.trans h2, ok2, r2⟩
      · cases h
  · cases h
theorem Ok.frzd {F' : Hp} {st : S} {σ : L2.St} (ok : Ok K G R F L st σ H) (s : Sub F F') (rel : Rel K G.at_ R F' L st.M H) : Ok K G R F' L st σ H :=
  ⟨rel, ok.len, fun i x e => (ok.sl i x e).ext (.frz s)⟩
theorem Ok.toD {st st' : S} {σ : L2.St} {r : Res} {d : D} {v : V} (ok : Ok K G R F L st σ H) (rr : RepR K G R F L st.M H r v) (h : Pm.toD r st = some (.ok d, st')) :
    ∃ F', Sub F F' ∧ Ok K G R F' L st' σ H ∧ Rep K G.at_ F' d v := by
  cases r with
  | d x => cases h; exact ⟨F, .refl F, ok, rr⟩
  | new c =>
    simp only [Pm.toD] at h
    split at h
    · rename_i y ey
      cases h
      obtain ⟨a, rfl, rc, n⟩ := rr
      obtain ⟨F', h1, h2, h3⟩ := ok.rel.frzNew rc n ey
      exact ⟨F', h1, ok.frzd h1 h3, h2⟩
    · cases h
  | ex c fs => cases h
  | loc i =>
    obtain ⟨a, ha, rfl⟩ := rr
    simp only [Pm.toD] at h
    split at h
    · rename_i y st1 e
      cases h
      exact ok.close ha e
    · cases h
theorem toD_exc {r : Res} {x : Exc} {st st' : S} (h : Pm.toD r st = some (.exc x, st')) : False := by
  cases r <;> simp only [Pm.toD] at h
  · cases h
  · split at h <;> cases h
  · split at h <;> cases h
  · cases h
end
/-! ### from an outcome to a reading -/
section
variable {K : PySem.W.Frag} {G : Cl} {Wx : WX} {R F : Hp} {L : List Addr} {σ : L2.St} {H : Hp} {st : S} {f : Ev Res}
theorem tE_of {Q : VK} (ok : Ok K G R F L st σ H) (o : OutE K G Wx R F L σ Q (f st)) : tE K G Wx f σ H Q := ⟨R, F, L, st, ok, o⟩
theorem outD {Q : VK} (o : OutD K G Wx R F L σ Q (evD f st)) : OutE K G Wx R F L σ Q (f st) := by
  refine OutP.bind (k := toD) o fun r st1 F1 L1 H1 x1 ok1 o1 v rr => ?_
  cases e2 : toD r st1 with
  | none => rw [e2] at o1; exact o1.elim
  | some p2 =>
    obtain ⟨out2, st2⟩ := p2
    rw [e2] at o1
    cases out2 with
    | exc x => exact (toD_exc e2).elim
    | ok d =>
      obtain ⟨F2, h1, h2, h3⟩ := ok1.toD rr e2
      exact o1 F2 L1 H1 (.frz h1) h2 v h3
theorem tE_D {Q : VK} (ok : Ok K G R F L st σ H) (o : OutD K G Wx R F L σ Q (evD f st)) : tE K G Wx f σ H Q := tE_of ok (outD o)
end
/-! ### closing leaves the old cells no newer ones -/
theorem Le.close1 {i : Nat} {x : D} {st st' : S} (h : Pm.close1 i st = some (x, st')) : Le st st' := by
  unfold Pm.close1 at h
  split at h
  · split at h
    · cases h
      refine ⟨rfl, by simp, fun j c' hj e => ?_⟩
      rw [List.getElem?_map] at e
      obtain ⟨o, e1, e2⟩ := Option.map_eq_some_iff.mp e
      obtain ⟨c0, rfl, e3⟩ := Option.map_eq_some_iff.mp e2
      rw [List.getElem?_set] at e1
      split at e1
      · split at e1 <;> cases e1
      · exact ⟨c0, e1, fun n z => e3 ▸ Cell.thaw_below z⟩
    · cases h
  · cases h
theorem Le.closeAll : ∀ (ws : List W) {st st' : S}, Pm.closeAll ws st = some st' → Le st st'
  | [], st, st', h => by cases h; exact .refl _
  | .d _ :: r, st, st', h => Le.closeAll r h
  | .loc j :: r, st, st', h => by
    simp only [Pm.closeAll] at h
    split at h
    · rename_i x st1 e
      exact (Le.close1 e).trans (Le.closeAll r h)
    · cases h
theorem Le.close {i : Nat} {x : D} {st st' : S} (h : Pm.close i st = some (x, st')) : Le st st' := by
  unfold Pm.close at h
  split at h
  · split at h
    · exact Le.close1 h
    · split at h
      · rename_i st1 e
        exact (Le.closeAll _ e).trans (Le.close1 h)
      · cases h
  · cases h
theorem bel_toD (r : Res) : Bel (toD r) := fun st o st' _ h => by
  cases r with
  | d x => cases h; exact .refl _
  | new c =>
    simp only [toD] at h
    split at h
    · cases h; exact .refl _
    · cases h
  | ex c fs => cases h
  | loc i =>
    simp only [toD] at h
    split at h
    · rename_i y st1 e
      cases h
      exact Le.close e
    · cases h
theorem bel_evD {f : Ev Res} (h : Bel f) : Bel (evD f) := h.bind bel_toD
end Pm

set_option maxHeartbeats 2000000
/-! Q1: expressions -/
namespace Pm
open PySem L2

/-! ### operands: data or a cell; read without closing -/
def toW : Res → Ev W
  | .d x => fun st => some (.ok (.d x), st)
  | .loc i => fun st => some (.ok (.loc i), st)
  | .new c => fun st => match c.frz with
    | some x => some (.ok (.d x), st)
    | none => none
  | .ex _ _ => fun _ => none
def evW (f : Ev Res) : Ev W := f.bind toW
def view (M : List (Option Cell)) : W → Option D
  | .d x => some x
  | .loc i => match M[i]? with
    | some (some c) => c.frz
    | _ => none
def views (M : List (Option Cell)) : List W → Option (List D)
  | [] => some []
  | w :: r => match view M w, views M r with
    | some x, some xs => some (x :: xs)
    | _, _ => none

section
variable (K : PySem.W.Frag) (g : Nat → Addr) (F H : Hp)
inductive RepV : D → V → Prop
  | rep {d : D} {v : V} : Rep K g F d v → RepV d v
  | lst {a : Addr} {ds : List D} {vs : List V} : H a = some (.lst vs) → Reps K g F ds vs → RepV (.lst ds) (.ref a)
  | obj {a dx : Addr} {c : Nat} {fs : List (Str × D)} {vs : List (Str × V)} : H a = some (.ins (g c) dx vs) → H dx = some (.own a) → RepF K g F fs vs → RepV (.obj c fs) (.ref a)
inductive RepVs : List D → List V → Prop
  | nil : RepVs [] []
  | cons {d : D} {v : V} {ds : List D} {vs : List V} : RepV K g F H d v → RepVs ds vs → RepVs (d :: ds) (v :: vs)
end
section
variable {K : PySem.W.Frag} {g : Nat → Addr} {G : Cl} {Wx : WX} {R F F' : Hp} {L : List Addr} {σ : L2.St} {H : Hp} {st st' : S}
theorem RepC.view {a : Addr} {c : Cell} {x : D} (r : RepC K g R F L H a c) (e : c.frz = some x) : RepV K g F H x (.ref a) := by
  cases c with
  | lst ws =>
    obtain ⟨_, _, vs, h, q⟩ := r
    obtain ⟨ds, e1, rfl⟩ := Option.map_eq_some_iff.mp e
    exact .lst h (dats_rep q e1)
  | ins c fs =>
    obtain ⟨_, _, dx, vs, h, ho, _, _, q⟩ := r
    obtain ⟨ds, e1, rfl⟩ := Option.map_eq_some_iff.mp e
    exact .obj h ho (datsF_rep q e1)
theorem Rel.view {M : List (Option Cell)} {w : W} {v : V} {x : D} (rel : Rel K g R F L M H) (r : RepW K g F L w v) (e : Pm.view M w = some x) : RepV K g F H x v := by
  cases w with
  | d y => cases e; exact .rep r
  | loc i =>
    obtain ⟨a, ha, rfl⟩ := r
    simp only [Pm.view] at e
    split at e
    · rename_i c hc
      obtain ⟨b, hb, rc⟩ := rel.ce i c hc
      rw [ha] at hb; cases hb
      exact rc.view e
    · cases e
theorem Rel.views {M : List (Option Cell)} (rel : Rel K g R F L M H) : ∀ {ws : List W} {vs : List V} {xs : List D}, RepWs K g F L ws vs → Pm.views M ws = some xs → RepVs K g F H xs vs
  | [], _, _, .nil, e => by cases e; exact .nil
  | w :: r, _, xs, .cons q t, e => by
    simp only [Pm.views] at e
    split at e
    · rename_i x ys e1 e2
      cases e
      exact .cons (rel.view q e1) (Rel.views rel t e2)
    · cases e
theorem Ok.toW {r : Res} {w : W} {v : V} (ok : Ok K G R F L st σ H) (rr : RepR K G R F L st.M H r v) (h : Pm.toW r st = some (.ok w, st')) :
    ∃ F', Sub F F' ∧ Ok K G R F' L st' σ H ∧ RepW K G.at_ F' L w v := by
  cases r with
  | d x => cases h; exact ⟨F, .refl F, ok, rr⟩
  | loc i => cases h; exact ⟨F, .refl F, ok, rr⟩
  | new c =>
    simp only [Pm.toW] at h
    split at h
    · rename_i y ey
      cases h
      obtain ⟨a, rfl, rc, n⟩ := rr
      obtain ⟨F', h1, h2, h3⟩ := ok.rel.frzNew rc n ey
      exact ⟨F', h1, ok.frzd h1 h3, h2⟩
    · cases h
  | ex c fs => cases h
theorem toW_exc {r : Res} {x : Exc} (h : Pm.toW r st = some (.exc x, st')) : False := by
  cases r <;> simp only [Pm.toW] at h
  · cases h
  · cases h
  · split at h <;> cases h
  · cases h
abbrev OutW (K : PySem.W.Frag) (G : Cl) (Wx : WX) (R F : Hp) (L : List Addr) (σ : L2.St) (Q : VK) : Option (Out W × S) → Prop := OutP K G Wx R F L σ fun w _ F' L' H' => ∀ v, RepW K G.at_ F' L' w v → Q v H'
theorem outW {f : Ev Res} {Q : VK} (o : OutW K G Wx R F L σ Q (evW f st)) : OutE K G Wx R F L σ Q (f st) := by
  refine OutP.bind (k := Pm.toW) o fun r st1 F1 L1 H1 x1 ok1 o1 v rr => ?_
  cases e2 : Pm.toW r st1 with
  | none => rw [e2] at o1; exact o1.elim
  | some p2 =>
    obtain ⟨out2, st2⟩ := p2
    rw [e2] at o1
    cases out2 with
    | exc x => exact (toW_exc e2).elim
    | ok d =>
      obtain ⟨F2, h1, h2, h3⟩ := ok1.toW rr e2
      exact o1 F2 L1 H1 (.frz h1) h2 v h3
theorem tE_W {f : Ev Res} {Q : VK} (ok : Ok K G R F L st σ H) (o : OutW K G Wx R F L σ Q (evW f st)) : tE K G Wx f σ H Q := tE_of ok (outW o)
theorem OutP.lift {α : Type} {o : Option α} {P : α → S → Hp → List Addr → Hp → Prop} (h : OutP K G Wx R F L σ P (Ev.lift o st)) : ∃ a, o = some a ∧ OutP K G Wx R F L σ P (some (.ok a, st)) := by
  cases o with
  | none => exact h.elim
  | some a => exact ⟨a, rfl, h⟩
theorem bel_toW (r : Res) : Bel (Pm.toW r) := .same fun st o st' h => by
  cases r <;> simp only [Pm.toW] at h
  · cases h; rfl
  · cases h; rfl
  · split at h <;> cases h; rfl
  · cases h
theorem bel_evW {f : Ev Res} (h : Bel f) : Bel (evW f) := h.bind bel_toW
/-- the same state, more frozen -/
theorem Ok.with {H' : Hp} (ok : Ok K G R F L st σ H) (s : Sub F F') (rel : Rel K G.at_ R F' L st.M H') : Ok K G R F' L st σ H' :=
  ⟨rel, ok.len, fun i x e => (ok.sl i x e).ext (.frz s)⟩
end

/-! ### names and constants -/
section
variable {X : Cx} {G : Cl} {Wx : WX}
def eVar (i : Nat) : Ev Res := fun st => match st.sl[i]? with
  | some (.w (.d x)) => some (.ok (.d x), st)
  | some (.w (.loc j)) => some (.ok (.loc j), st)
  | some (.ex c fs) => some (.ok (.ex c fs), st)
  | _ => none
theorem se_var (i : Nat) {x : Str} {pos : Pos} (hN : X.N[i]? = some x := by rfl) (hv : Vis X.env.scope x := by first | exact Or.inl rfl | exact Or.inr (Or.inl rfl) | exact Or.inr (Or.inr rfl))
    (hd : (x == ("__debug__" : Str)) = false := by decide) (hcd : (x == ("__classdict__" : Str)) = false := by decide) : SE X G Wx (.Name x pos) (eVar i) := ⟨by
  refine PE_imp (pe_var hN hv hd hcd) fun σ H Q ⟨R, F, L, st, ok, o⟩ => ?_
  unfold eVar at o
  split at o
  · rename_i y e
    obtain ⟨v, hv, r⟩ := ok.sl i _ e
    exact ⟨v, hv, o F L H (.refl F L) ok v r⟩
  · rename_i j e
    obtain ⟨v, hv, r⟩ := ok.sl i _ e
    exact ⟨v, hv, o F L H (.refl F L) ok v r⟩
  · rename_i c fs e
    obtain ⟨hv, r⟩ := ok.sl i _ e
    exact ⟨_, hv, o F L H (.refl F L) ok _ ⟨rfl, r⟩⟩
  · exact o.elim, .same fun st o st' e => by
  unfold eVar at e
  split at e <;> cases e <;> rfl⟩
def eC (d : D) : Ev Res := fun st => some (.ok (.d d), st)
theorem se_c {e : Expr} {d : D} {v : V} (h : PE X e (tC v)) (r : ∀ F, Rep X.K G.at_ F d v) : SE X G Wx e (eC d) := ⟨by
  refine PE_imp h fun σ H Q ⟨R, F, L, st, ok, o⟩ => ?_
  exact o F L H (.refl F L) ok v (r F), .pure⟩
theorem se_int {i j pos} : SE X G Wx (.Constant (.int i) j pos) (eC (.int i)) := se_c pe_int fun _ => .int i
theorem se_bl {b j pos} : SE X G Wx (.Constant (.bool b) j pos) (eC (.bl b)) := se_c pe_bl fun _ => .bl b
theorem se_non {j pos} : SE X G Wx (.Constant .none j pos) (eC .non) := se_c pe_non fun _ => .non
theorem se_str {x j pos} : SE X G Wx (.Constant (.str x) j pos) (eC (.str x)) := se_c pe_str fun _ => .str x
/-- a module's constant -/
theorem se_glob {x : Str} {d : D} {v : V} {u : Value} {pos : Pos} (hg : Gl X x) (hm : X.mg x = some u) (r : RelV v u) (h : ∀ F, Rep X.K G.at_ F d v) (hd : (x == ("__debug__" : Str)) = false := by decide) : SE X G Wx (.Name x pos) (eC d) :=
  se_c (pe_glob hg hm r hd) h
end

/-! ### operators -/
section
variable {X : Cx} {G : Cl} {Wx : WX}
/-- an operation on data, as a reading: it gives data, or a fresh cell -/
def rD (K : PySem.W.Frag) (G : Cl) (opf : D → D → Option Res) : R2 := fun x y H Q => ∃ R F L M a b r, Rel K G.at_ R F L M H ∧ RepV K G.at_ F H a x ∧ RepV K G.at_ F H b y ∧ opf a b = some r ∧
  ∀ v F' H', Sub F F' → Rel K G.at_ R F' L M H' → RepR K G R F' L M H' r v → Q v H'
def eOp (opf : D → D → Option Res) (f h : Ev Res) : Ev Res := (evW f).bind fun w => (evW h).bind fun u => fun st => match view st.M w, view st.M u with
  | some a, some b => Ev.lift (opf a b) st
  | _, _ => none
theorem bel_op {opf : D → D → Option Res} {f h : Ev Res} (bf : Bel f) (bh : Bel h) : Bel (eOp opf f h) := (bel_evW bf).bind fun w => (bel_evW bh).bind fun u => .same fun st o st' e => by
  split at e
  · unfold Ev.lift at e; split at e <;> cases e; rfl
  · cases e
theorem tOp_of {K : PySem.W.Frag} {opf : D → D → Option Res} {f h : Ev Res} {σ : L2.St} {H : Hp} {Q : VK} (t : tE K G Wx (eOp opf f h) σ H Q) : tOp (rD K G opf) (tE K G Wx f) (tE K G Wx h) σ H Q := by
  obtain ⟨R, F, L, st, ok, o⟩ := t
  refine tE_W ok (OutP.bind (f := evW f) o fun w st1 F1 L1 H1 x1 ok1 o1 v rv => ?_)
  refine tE_W ok1 (OutP.bind (f := evW h) o1 fun u st2 F2 L2 H2 x2 ok2 o2 v2 ru => ?_)
  cases e1 : view st2.M w with
  | none => rw [e1] at o2; exact o2.elim
  | some a =>
    cases e2 : view st2.M u with
    | none => rw [e1, e2] at o2; exact o2.elim
    | some b =>
      rw [e1, e2] at o2
      obtain ⟨r, er, o3⟩ := OutP.lift o2
      exact ⟨R, F2, L2, st2.M, a, b, r, ok2.rel, ok2.rel.view (rv.ext x2) e1, ok2.rel.view ru e2, er, fun z F' H' s rel rr => o3 F' L2 H' (.frz s) (ok2.with s rel) z rr⟩
theorem se_op {op : Operator} {opf : D → D → Option Res} {a b : Expr} {f h : Ev Res} {pos : Pos} (ho : OpR X (binaryOp op) (rD X.K G opf)) (ha : SE X G Wx a f) (hb : SE X G Wx b h) : SE X G Wx (.BinOp a op b pos) (eOp opf f h) :=
  ⟨PE_imp (pe_op ho ha.pe hb.pe) fun _ _ _ t => tOp_of t, bel_op ha.bel hb.bel⟩
theorem se_cmp {op : CmpOp} {opf : D → D → Option Res} {a b : Expr} {f h : Ev Res} {pos : Pos} (ho : OpR X (compareOp op) (rD X.K G opf)) (ha : SE X G Wx a f) (hb : SE X G Wx b h)
    (hm : behindInMarks op b = false := by first | exact nomark _ | rfl) : SE X G Wx (.Compare a [op] [b] pos) (eOp opf f h) :=
  ⟨PE_imp (pe_cmpR ho ha.pe hb.pe hm) fun _ _ _ t => tOp_of t, bel_op ha.bel hb.bel⟩
/-- an answer as a truth value: it is one -/
def asB : Res → Ev Bool
  | .d (.bl b) => Ev.pure b
  | _ => Ev.fail
def eB (f : Ev Res) : Ev Bool := f.bind asB
theorem bel_B {f : Ev Res} (h : Bel f) : Bel (eB f) := h.bind fun r => .same fun st o st' e => by
  unfold asB at e
  split at e <;> cases e; rfl
theorem tB_of {K : PySem.W.Frag} {f : Ev Res} {σ : L2.St} {H : Hp} {Q : Bool → Hp → Prop} (t : tT K G Wx (eB f) σ H Q) : tE K G Wx f σ H fun x H' => ∃ k, x = .bl k ∧ Q k H' := by
  obtain ⟨R, F, L, st, ok, o⟩ := t
  refine tE_of ok (OutP.bind (f := f) o fun r st1 F1 L1 H1 x1 ok1 o1 v rv => ?_)
  cases r with
  | d x =>
    cases x with
    | bl b => cases rv; exact ⟨b, rfl, o1 F1 L1 H1 (.refl _ _) ok1⟩
    | _ => exact o1.elim
  | _ => exact o1.elim
theorem st_cmp {op : CmpOp} {opf : D → D → Option Res} {a b : Expr} {f h : Ev Res} {pos : Pos} (ho : OpR X (compareOp op) (rD X.K G opf)) (ha : SE X G Wx a f) (hb : SE X G Wx b h)
    (hm : behindInMarks op b = false := by first | exact nomark _ | rfl) : ST X G Wx (.Compare a [op] [b] pos) (eB (eOp opf f h)) :=
  ⟨PT_imp (pt_cmpR ho ha.pe hb.pe hm) fun σ H Q t => by
    obtain ⟨R, F, L, st, ok, o⟩ := tB_of t
    exact tOp_of ⟨R, F, L, st, ok, o⟩, bel_B (bel_op ha.bel hb.bel)⟩
/-- an expression that gives True or False, as a test -/
theorem st_val {e : Expr} {f : Ev Res} (h : SE X G Wx e f) (he : ∀ whole, isTrue e X.env whole = (do let v ← whole; standAt e.pos; holding [v] (truthy v)) := by intro _; rfl) : ST X G Wx e (eB f) :=
  ⟨PT_imp (pt_val h.pe he) fun _ _ _ t => tB_of t, bel_B h.bel⟩
/-- two comparisons in a row -/
def eChain (o1 o2 : D → D → Option Res) (f h k : Ev Res) : Ev Res := (evW f).bind fun w => (evW h).bind fun u => fun st => match view st.M w, view st.M u with
  | some a, some b => match o1 a b with
    | some (.d (.bl true)) => ((evW k).bind fun z => fun st => match view st.M u, view st.M z with
      | some b, some c => Ev.lift (o2 b c) st
      | _, _ => none) st
    | some (.d (.bl false)) => some (.ok (.d (.bl false)), st)
    | _ => none
  | _, _ => none
end
end Pm

set_option maxHeartbeats 2000000
/-! Q2: expressions, further: tests, displays, places -/
namespace Pm
open PySem L2

/-! ### the heap grows -/
section
variable {K : PySem.W.Frag} {g : Nat → Addr} {G : Cl} {R F F' : Hp} {L : List Addr} {M : List (Option Cell)} {H H' : Hp}
theorem RepC.grow {a : Addr} {c : Cell} (r : RepC K g R F L H a c) (s : Sub F F') (h : Sub H H') (n : ∀ b o, H b = some o → F b = none → F' b = none) : RepC K g R F' L H' a c := by
  cases c with
  | lst ws => obtain ⟨f0, r0, vs, e, q⟩ := r; exact ⟨n _ _ e f0, r0, vs, h _ _ e, q.ext (.frz s)⟩
  | ins c fs => obtain ⟨f0, r0, dx, vs, e, eo, f1, r1, q⟩ := r; exact ⟨n _ _ e f0, r0, dx, vs, h _ _ e, h _ _ eo, n _ _ eo f1, r1, q.ext (.frz s)⟩
theorem Rel.grow (rel : Rel K g R F L M H) (s : Sub F F') (s' : Sub F' H') (h : Sub H H') (n : ∀ b o, H b = some o → F b = none → F' b = none) : Rel K g R F' L M H' where
  fh := s'
  rh := rel.rh.trans h
  fr := fun a o e => n a o (rel.rh a o e) (rel.fr a o e)
  il := rel.il
  ce := fun i c e => let ⟨a, ha, r⟩ := rel.ce i c e; ⟨a, ha, r.grow s h n⟩
  nd := rel.nd
/-- a new object, frozen -/
theorem Rel.newF {p : Addr} {o : HO} (rel : Rel K g R F L M H) (hp : H p = none) : Sub F (upd F p o) ∧ Rel K g R (upd F p o) L M (upd H p o) := by
  have fp : F p = none := rel.fh.none hp
  have s : Sub F (upd F p o) := Sub.new fp
  refine ⟨s, rel.grow s (fun b u e => ?_) (Sub.new hp) fun b u e q => ?_⟩
  · by_cases hb : b = p
    · subst hb; rw [upd_same] at e ⊢; exact e
    · rw [upd_ne hb] at e ⊢; exact rel.fh b u e
  · rw [upd_ne (ne_of_none e hp)]; exact q
theorem Rel.newTup {p : Addr} {ds : List D} {vs : List V} (rel : Rel K g R F L M H) (hp : H p = none) (r : Reps K g F ds vs) :
    Sub F (upd F p (.tup vs)) ∧ Rel K g R (upd F p (.tup vs)) L M (upd H p (.tup vs)) ∧ Rep K g (upd F p (.tup vs)) (.tup ds) (.ref p) := by
  obtain ⟨h1, h2⟩ := rel.newF (o := .tup vs) hp
  exact ⟨h1, h2, .tup (SqT.of upd_same) (r.mono h1)⟩
theorem Rel.live {i : Nat} {c : Cell} {a : Addr} (rel : Rel K g R F L M H) (e : M[i]? = some (some c)) (ha : L[i]? = some a) : ∃ o, H a = some o := by
  obtain ⟨b, hb, r⟩ := rel.ce i c e
  rw [ha] at hb; cases hb
  obtain ⟨o, h, _⟩ := r.there
  exact ⟨o, h⟩
/-- a new list, to be changed or frozen -/
theorem Rel.newLst {p : Addr} {ws : List W} {vs : List V} (rel : Rel K G.at_ R F L M H) (hp : H p = none) (r : RepWs K G.at_ F L ws vs) :
    Rel K G.at_ R F L M (upd H p (.lst vs)) ∧ RepR K G R F L M (upd H p (.lst vs)) (.new (.lst ws)) (.ref p) := by
  refine ⟨rel.grow (.refl F) (rel.fh.upd (rel.fh.none hp)) (Sub.new hp) fun _ _ _ q => q, p, rfl, ⟨rel.fh.none hp, rel.rh.none hp, vs, upd_same, r⟩, fun i c e z => ?_⟩
  obtain ⟨o, h⟩ := rel.live e z
  rw [hp] at h; cases h
theorem Reps.toW : ∀ {ds : List D} {vs : List V}, Reps K g F ds vs → RepWs K g F L (ds.map .d) vs
  | _, _, .nil => .nil
  | _, _, .cons r t => .cons r (Reps.toW t)
/-- a fresh cell takes its place among the cells -/
theorem Rel.alloc {c : Cell} {a : Addr} (rel : Rel K g R F L M H) (r : RepC K g R F L H a c) (n : ∀ (i : Nat) (c' : Cell), M[i]? = some (some c') → L[i]? ≠ some a) :
    Ext F F L (L ++ [a]) ∧ Rel K g R F (L ++ [a]) (M ++ [some c]) H ∧ (L ++ [a])[M.length]? = some a := by
  have xx : Ext F F L (L ++ [a]) := ⟨.refl F, List.prefix_append _ _⟩
  have il := rel.il
  have grow : ∀ b c', RepC K g R F L H b c' → RepC K g R F (L ++ [a]) H b c' := fun b c' r' => by
    cases c' with
    | lst ws => obtain ⟨f0, r0, vs, e, q⟩ := r'; exact ⟨f0, r0, vs, e, q.ext xx⟩
    | ins c fs => obtain ⟨f0, r0, dx, vs, e, eo, f1, r1, q⟩ := r'; exact ⟨f0, r0, dx, vs, e, eo, f1, r1, q.ext xx⟩
  have lastL : (L ++ [a])[M.length]? = some a := by rw [← il]; simp
  have old : ∀ (i : Nat) (c' : Cell), (M ++ [some c])[i]? = some (some c') → (i = M.length ∧ c' = c) ∨ (i < M.length ∧ M[i]? = some (some c')) := fun i c' e => by
    by_cases h : i < M.length
    · rw [List.getElem?_append_left h] at e; exact .inr ⟨h, e⟩
    · rw [List.getElem?_append_right (by omega)] at e
      have hi : i - M.length = 0 := by
        cases q : i - M.length with
        | zero => rfl
        | succ k => rw [q] at e; simp at e
      rw [hi] at e
      simp at e
      exact .inl ⟨by omega, e.symm⟩
  have oldL : ∀ (i : Nat) (b : Addr), i < M.length → (L ++ [a])[i]? = some b → L[i]? = some b := fun i b h e => by rw [List.getElem?_append_left (by omega)] at e; exact e
  refine ⟨xx, ⟨rel.fh, rel.rh, rel.fr, by simp [il], fun i c' e => ?_, fun i j c1 c2 b e1 e2 h1 h2 => ?_⟩, lastL⟩
  · rcases old i c' e with ⟨rfl, rfl⟩ | ⟨h, e'⟩
    · exact ⟨a, lastL, grow _ _ r⟩
    · obtain ⟨b, hb, r'⟩ := rel.ce i c' e'
      exact ⟨b, xx.get hb, grow _ _ r'⟩
  · rcases old i c1 e1 with ⟨rfl, rfl⟩ | ⟨h, e1'⟩
    · rcases old j c2 e2 with ⟨rfl, rfl⟩ | ⟨h', e2'⟩
      · rfl
      · rw [lastL] at h1; cases h1
        exact absurd (oldL j _ h' h2) (n j c2 e2')
    · rcases old j c2 e2 with ⟨rfl, rfl⟩ | ⟨h', e2'⟩
      · rw [lastL] at h2; cases h2
        exact absurd (oldL i _ h h1) (n i c1 e1')
      · exact rel.nd i j c1 c2 b e1' e2' (oldL i b h h1) (oldL j b h' h2)
theorem Ok.alloc {st : S} {σ : L2.St} {c : Cell} {a : Addr} (ok : Ok K G R F L st σ H) (r : RepC K G.at_ R F L H a c) (n : ∀ (i : Nat) (c' : Cell), st.M[i]? = some (some c') → L[i]? ≠ some a) :
    Ext F F L (L ++ [a]) ∧ Ok K G R F (L ++ [a]) ⟨st.sl, st.M ++ [some c], st.b⟩ σ H ∧ (L ++ [a])[st.M.length]? = some a := by
  obtain ⟨h1, h2, h3⟩ := ok.rel.alloc r n
  exact ⟨h1, ⟨h2, ok.len, fun i s e => (ok.sl i s e).ext h1⟩, h3⟩
end

/-! ### arguments, displays -/
section
variable {X : Cx} {G : Cl} {Wx : WX}
def eaNil : Ev (List W) := fun st => some (.ok [], st)
def eaCons (f : Ev W) (r : Ev (List W)) : Ev (List W) := f.bind fun w => r.bind fun ws => fun st => some (.ok (w :: ws), st)
/-- an argument that may stay a cell; one that is closed; one whose fresh cell takes a place -/
def evC (f : Ev Res) : Ev W := (evD f).bind fun x => fun st => some (.ok (.d x), st)
def toCell : Res → Ev W
  | .d x => fun st => some (.ok (.d x), st)
  | .loc i => fun st => some (.ok (.loc i), st)
  | .new c => fun st => some (.ok (.loc st.M.length), ⟨st.sl, st.M ++ [some c], st.b⟩)
  | .ex _ _ => fun _ => none
def evN (f : Ev Res) : Ev W := f.bind toCell
/-- f as a W, by some way -/
structure AsW (f : Ev Res) (h : Ev W) : Prop where
  bel : Bel f → Bel h
  out : ∀ {K : PySem.W.Frag} {G : Cl} {Wx : WX} {R F : Hp} {L : List Addr} {σ : L2.St} {st : S} {Q : VK}, OutW K G Wx R F L σ Q (h st) → OutE K G Wx R F L σ Q (f st)
theorem asW {f : Ev Res} : AsW f (evW f) := ⟨bel_evW, fun o => outW (σ := _) o⟩
theorem asC {f : Ev Res} : AsW f (evC f) := ⟨fun b => (bel_evD b).bind fun _ => .pure, fun o => outD (OutP.bind (f := evD f) o fun d st1 F1 L1 H1 x1 ok1 o1 v r => o1 F1 L1 H1 (.refl _ _) ok1 v r)⟩
theorem bel_toCell (r : Res) : Bel (toCell r) := fun st o st' hb h => by
  cases r <;> simp only [toCell] at h
  · cases h; exact .refl _
  · cases h; exact .refl _
  · cases h
    refine ⟨rfl, by simp, fun i c' hi e => ⟨c', ?_, fun _ z => z⟩⟩
    simp only at e
    rw [List.getElem?_append_left (by omega)] at e
    exact e
  · cases h
theorem asN {f : Ev Res} : AsW f (evN f) := ⟨fun b => b.bind bel_toCell, fun o => OutP.bind (f := f) o fun r st1 F1 L1 H1 x1 ok1 o1 v rr => by
  cases r with
  | d x => exact o1 F1 L1 H1 (.refl _ _) ok1 v rr
  | loc i => exact o1 F1 L1 H1 (.refl _ _) ok1 v rr
  | new c =>
    obtain ⟨a, rfl, rc, n⟩ := rr
    obtain ⟨h1, h2, h3⟩ := ok1.alloc rc n
    exact o1 F1 _ H1 h1 h2 _ ⟨a, h3, rfl⟩
  | ex c fs => exact o1.elim⟩
theorem sa_nil : SA X G Wx [] eaNil := ⟨PA_imp pa_nil fun σ H Q ⟨R, F, L, st, ok, o⟩ => o F L H (.refl F L) ok [] .nil, .pure⟩
theorem sa_cons {e : Expr} {es : List Expr} {f : Ev Res} {h : Ev W} {r : Ev (List W)} (hw : AsW f h) (he : SE X G Wx e f) (hr : SA X G Wx es r) (hs : starEach (e :: es) X.env = (false, eval e X.env) :: starEach es X.env := by rfl) : SA X G Wx (e :: es) (eaCons h r) :=
  ⟨PA_imp (pa_cons he.pe hr.pa hs) fun σ H Q ⟨R, F, L, st, ok, o⟩ => by
    refine tE_of ok (hw.out (OutP.bind (f := h) o fun w st1 F1 L1 H1 x1 ok1 o1 v rv => ?_))
    refine ⟨R, F1, L1, st1, ok1, OutP.bind (f := r) o1 fun ws st2 F2 L2 H2 x2 ok2 o2 vs rvs => ?_⟩
    exact o2 F2 L2 H2 (.refl _ _) ok2 (v :: vs) (.cons (rv.ext x2) rvs), (hw.bel he.bel).bind fun _ => hr.bel.bind fun _ => .pure⟩
/-- plain data, all of them -/
def eTup (fa : Ev (List W)) : Ev Res := fa.bind fun ws => fun st => match dats ws with
  | some ds => if ds.length ≤ sizeLine then some (.ok (.d (.tup ds)), st) else none
  | none => none
def eLst (fa : Ev (List W)) : Ev Res := fa.bind fun ws => fun st => if ws.length ≤ sizeLine then some (.ok (.new (.lst ws)), st) else none
theorem dats_len : ∀ {ws : List W} {ds : List D}, dats ws = some ds → ds.length = ws.length
  | [], _, e => by cases e; rfl
  | .d x :: r, _, e => by
    simp only [dats] at e
    obtain ⟨es, e1, rfl⟩ := Option.map_eq_some_iff.mp e
    simp [dats_len e1]
  | .loc _ :: _, _, e => by simp [dats] at e
theorem se_tup {es : List Expr} {k : Nat} {pos : Pos} {fa : Ev (List W)} (ha : SA X G Wx es fa) : SE X G Wx (.Tuple es k pos) (eTup fa) :=
  ⟨PE_imp (pe_tup ha.pa) fun σ H Q ⟨R, F, L, st, ok, o⟩ => by
    refine ⟨R, F, L, st, ok, OutP.bind (f := fa) o fun ws st1 F1 L1 H1 x1 ok1 o1 vs rvs => ?_⟩
    cases e : dats ws with
    | none => rw [e] at o1; exact o1.elim
    | some ds =>
      rw [e] at o1
      dsimp only at o1
      split at o1
      · rename_i hl
        have rd := dats_rep rvs e
        refine ⟨by rw [← rd.length]; exact hl, fun p hp => ?_⟩
        obtain ⟨h1, h2, h3⟩ := ok1.rel.newTup hp rd
        exact o1 _ L1 _ (.frz h1) (ok1.with h1 h2) _ h3
      · exact o1.elim, ha.bel.bind fun ws => .same fun st o st' e => by
      split at e
      · split at e <;> cases e; rfl
      · cases e⟩
theorem se_lst {es : List Expr} {pos : Pos} {fa : Ev (List W)} (ha : SA X G Wx es fa) : SE X G Wx (.List es pos) (eLst fa) :=
  ⟨PE_imp (pe_lst ha.pa) fun σ H Q ⟨R, F, L, st, ok, o⟩ => by
    refine ⟨R, F, L, st, ok, OutP.bind (f := fa) o fun ws st1 F1 L1 H1 x1 ok1 o1 vs rvs => ?_⟩
    split at o1
    · rename_i hl
      refine ⟨by rw [← rvs.length]; exact hl, fun p hp => ?_⟩
      obtain ⟨h1, h2⟩ := ok1.rel.newLst hp rvs
      exact o1 _ L1 _ (.refl _ _) (ok1.with (.refl _) h1) _ h2
    · exact o1.elim, ha.bel.bind fun ws => .same fun st o st' e => by
      split at e <;> cases e; rfl⟩
end

/-! ### tests -/
section
variable {X : Cx} {G : Cl} {Wx : WX}
/-- truth of data -/
def truD : D → Option Bool
  | .non => some false
  | .bl b => some b
  | .int i => some (i != 0)
  | .str x => if x.length ≤ sizeLine then some ((x.length : Int) != 0) else none
  | .tup xs => some (!xs.isEmpty)
  | .lst xs => some (!xs.isEmpty)
  | .scr xs => some (!xs.isEmpty)
  | _ => none
theorem Reps.empty {K : PySem.W.Frag} {g : Nat → Addr} {F : Hp} {ds : List D} {vs : List V} (r : Reps K g F ds vs) : vs.isEmpty = ds.isEmpty := by cases r <;> rfl
theorem truV_of {K : PySem.W.Frag} {g : Nat → Addr} {R F H : Hp} {L : List Addr} {M : List (Option Cell)} {d : D} {v : V} {b : Bool} (rel : Rel K g R F L M H) (r : RepV K g F H d v) (e : truD d = some b) : TruV K v H b := by
  cases r with
  | rep r =>
    cases r <;> simp only [truD] at e
    · cases e; rfl
    · cases e; rfl
    · cases e; rfl
    · split at e
      · rename_i h; cases e; exact ⟨h, rfl⟩
      · cases e
    · cases e
    · cases e
    · rename_i s q
      cases e
      exact .inr (.inl ⟨_, sub_t rel.fh s, by rw [q.empty]⟩)
    · rename_i s q
      cases e
      exact .inl ⟨_, SqL.of (rel.fh _ _ s), by rw [q.empty]⟩
    · rename_i s q
      cases e
      exact .inl ⟨_, sub_l rel.fh s, by rw [q.empty]⟩
    · cases e
    · cases e
  | lst h q =>
    simp only [truD] at e
    cases e
    exact .inl ⟨_, SqL.of h, by rw [q.empty]⟩
  | obj _ _ _ => simp [truD] at e
def eTru (f : Ev Res) : Ev Bool := (evW f).bind fun w => fun st => match view st.M w with
  | some d => Ev.lift (truD d) st
  | none => none
theorem bel_tru {f : Ev Res} (h : Bel f) : Bel (eTru f) := (bel_evW h).bind fun w => .same fun st o st' e => by
  split at e
  · unfold Ev.lift at e; split at e <;> cases e; rfl
  · cases e
theorem truth_of {K : PySem.W.Frag} {f : Ev Res} {σ : L2.St} {H : Hp} {Q : Bool → Hp → Prop} (t : tT K G Wx (eTru f) σ H Q) : tE K G Wx f σ H fun x H1 => ∃ k, TruV K x H1 k ∧ Q k H1 := by
  obtain ⟨R, F, L, st, ok, o⟩ := t
  refine tE_W ok (OutP.bind (f := evW f) o fun w st1 F1 L1 H1 x1 ok1 o1 v rv => ?_)
  cases e : view st1.M w with
  | none => rw [e] at o1; exact o1.elim
  | some d =>
    rw [e] at o1
    obtain ⟨b, eb, o2⟩ := OutP.lift o1
    exact ⟨b, truV_of ok1.rel (ok1.rel.view rv e) eb, o2 F1 L1 H1 (.refl _ _) ok1⟩
theorem st_tru {e : Expr} {f : Ev Res} (h : SE X G Wx e f) (he : ∀ whole, isTrue e X.env whole = (do let v ← whole; standAt e.pos; holding [v] (truthy v)) := by intro _; rfl) : ST X G Wx e (eTru f) :=
  ⟨PT_imp (pt_truth h.pe he) fun _ _ _ t => truth_of t, bel_tru h.bel⟩
structure SW (X : Cx) (G : Cl) (Wx : WX) (e : Expr) (f : Ev Bool) : Prop where
  pw : PW X e (tT X.K G Wx f)
  bel : Bel f
theorem PW_imp {X : Cx} {e : Expr} {t t' : TT} (h : PW X e t) (k : ∀ σ H Q, t' σ H Q → t σ H Q) : PW X e t' :=
  ⟨fun wh pins s σ H Q I hw => h.run wh pins s σ H Q I (k σ H Q hw)⟩
def eAndT (f h : Ev Bool) : Ev Bool := f.bind fun c => if c then h else Ev.pure false
def eOrT (f h : Ev Bool) : Ev Bool := f.bind fun c => if c then Ev.pure true else h
def eNotT (f : Ev Bool) : Ev Bool := f.bind fun c => Ev.pure (!c)
variable {a b : Expr} {rest : List Expr} {f h : Ev Bool} {pos : Pos}
theorem sw_and1 (ha : ST X G Wx a f) : SW X G Wx (.BoolOp .And [a] pos) f := ⟨pw_and1 ha.pt, ha.bel⟩
theorem sw_or1 (ha : ST X G Wx a f) : SW X G Wx (.BoolOp .Or [a] pos) f := ⟨pw_or1 ha.pt, ha.bel⟩
theorem bel_ite {α : Type} {c : Bool} {f h : Ev α} (a : Bel f) (b : Bel h) : Bel (if c then f else h) := by cases c <;> assumption
theorem sw_and (ha : ST X G Wx a f) (hb : SW X G Wx (.BoolOp .And (b :: rest) pos) h) : SW X G Wx (.BoolOp .And (a :: b :: rest) pos) (eAndT f h) :=
  ⟨PW_imp (pw_and ha.pt hb.pw) fun σ H Q ⟨R, F, L, st, ok, o⟩ => ⟨R, F, L, st, ok, OutP.bind (f := f) o fun c st1 F1 L1 H1 x1 ok1 o1 => by
    cases c with
    | true => exact ⟨R, F1, L1, st1, ok1, o1⟩
    | false => exact o1 F1 L1 H1 (.refl _ _) ok1⟩, ha.bel.bind fun _ => bel_ite hb.bel .pure'⟩
theorem sw_or (ha : ST X G Wx a f) (hb : SW X G Wx (.BoolOp .Or (b :: rest) pos) h) : SW X G Wx (.BoolOp .Or (a :: b :: rest) pos) (eOrT f h) :=
  ⟨PW_imp (pw_or ha.pt hb.pw) fun σ H Q ⟨R, F, L, st, ok, o⟩ => ⟨R, F, L, st, ok, OutP.bind (f := f) o fun c st1 F1 L1 H1 x1 ok1 o1 => by
    cases c with
    | false => exact ⟨R, F1, L1, st1, ok1, o1⟩
    | true => exact o1 F1 L1 H1 (.refl _ _) ok1⟩, ha.bel.bind fun _ => bel_ite .pure' hb.bel⟩
theorem st_bool (h : SW X G Wx a f) : ST X G Wx a f := ⟨h.pw.pt, h.bel⟩
theorem st_not (ha : ST X G Wx a f) : ST X G Wx (.UnaryOp .Not a pos) (eNotT f) :=
  ⟨PT_imp (pt_not ha.pt) fun σ H Q ⟨R, F, L, st, ok, o⟩ => ⟨R, F, L, st, ok, OutP.bind (f := f) o fun c st1 F1 L1 H1 x1 ok1 o1 => o1 F1 L1 H1 (.refl _ _) ok1⟩, ha.bel.bind fun _ => .pure'⟩
/-- a if t else b -/
def eIf (c : Ev Bool) (f h : Ev Res) : Ev Res := c.bind fun k => if k then f else h
theorem se_ifx {c : Expr} {t : Ev Bool} {p q : Ev Res} (hc : ST X G Wx c t) (ha : SE X G Wx a p) (hb : SE X G Wx b q) : SE X G Wx (.IfExp c a b pos) (eIf t p q) :=
  ⟨PE_imp (pe_ifExp hc.pt ha.pe hb.pe) fun σ H Q ⟨R, F, L, st, ok, o⟩ => ⟨R, F, L, st, ok, OutP.bind (f := t) o fun c st1 F1 L1 H1 x1 ok1 o1 => by
    cases c with
    | true => exact ⟨R, F1, L1, st1, ok1, o1⟩
    | false => exact ⟨R, F1, L1, st1, ok1, o1⟩⟩, hc.bel.bind fun _ => bel_ite ha.bel hb.bel⟩
/-- and, or, not as values -/
def W.res : W → Res
  | .d x => .d x
  | .loc i => .loc i
def eAndV (f h : Ev Res) : Ev Res := (evW f).bind fun w => fun st => match view st.M w with
  | some d => match truD d with
    | some true => h st
    | some false => some (.ok w.res, st)
    | none => none
  | none => none
def eOrV (f h : Ev Res) : Ev Res := (evW f).bind fun w => fun st => match view st.M w with
  | some d => match truD d with
    | some false => h st
    | some true => some (.ok w.res, st)
    | none => none
  | none => none
def eNotV (f : Ev Res) : Ev Res := (eTru f).bind fun b => fun st => some (.ok (.d (.bl (!b))), st)
theorem bel_andV {f h : Ev Res} (bf : Bel f) (bh : Bel h) : Bel (eAndV f h) := (bel_evW bf).bind fun w => fun st o st' hb e => by
  split at e
  · split at e
    · exact bh _ _ _ hb e
    · cases e; exact .refl _
    · cases e
  · cases e
theorem bel_orV {f h : Ev Res} (bf : Bel f) (bh : Bel h) : Bel (eOrV f h) := (bel_evW bf).bind fun w => fun st o st' hb e => by
  split at e
  · split at e
    · exact bh _ _ _ hb e
    · cases e; exact .refl _
    · cases e
  · cases e
theorem repR_W {K : PySem.W.Frag} {R F H : Hp} {L : List Addr} {M : List (Option Cell)} {w : W} {v : V} (r : RepW K G.at_ F L w v) : RepR K G R F L M H w.res v := by
  cases w <;> exact r
theorem se_one {op} {f : Ev Res} (h : SE X G Wx a f) : SE X G Wx (.BoolOp op [a] pos) f := ⟨pe_one h.pe, h.bel⟩
theorem se_and {f h : Ev Res} (ha : SE X G Wx a f) (hb : SE X G Wx (.BoolOp .And (b :: rest) pos) h) : SE X G Wx (.BoolOp .And (a :: b :: rest) pos) (eAndV f h) :=
  ⟨PE_imp (pe_andT ha.pe hb.pe) fun σ H Q ⟨R, F, L, st, ok, o⟩ => tE_W ok (OutP.bind (f := evW f) o fun w st1 F1 L1 H1 x1 ok1 o1 v rv => by
    cases e : view st1.M w with
    | none => rw [e] at o1; exact o1.elim
    | some d =>
      rw [e] at o1
      dsimp only at o1
      cases eb : truD d with
      | none => rw [eb] at o1; exact o1.elim
      | some k =>
        rw [eb] at o1
        refine ⟨k, truV_of ok1.rel (ok1.rel.view rv e) eb, ?_⟩
        cases k with
        | true => exact ⟨R, F1, L1, st1, ok1, o1⟩
        | false => exact o1 F1 L1 H1 (.refl _ _) ok1 v (repR_W rv)), bel_andV ha.bel hb.bel⟩
theorem se_or {f h : Ev Res} (ha : SE X G Wx a f) (hb : SE X G Wx (.BoolOp .Or (b :: rest) pos) h) : SE X G Wx (.BoolOp .Or (a :: b :: rest) pos) (eOrV f h) :=
  ⟨PE_imp (pe_orT ha.pe hb.pe) fun σ H Q ⟨R, F, L, st, ok, o⟩ => tE_W ok (OutP.bind (f := evW f) o fun w st1 F1 L1 H1 x1 ok1 o1 v rv => by
    cases e : view st1.M w with
    | none => rw [e] at o1; exact o1.elim
    | some d =>
      rw [e] at o1
      dsimp only at o1
      cases eb : truD d with
      | none => rw [eb] at o1; exact o1.elim
      | some k =>
        rw [eb] at o1
        refine ⟨k, truV_of ok1.rel (ok1.rel.view rv e) eb, ?_⟩
        cases k with
        | false => exact ⟨R, F1, L1, st1, ok1, o1⟩
        | true => exact o1 F1 L1 H1 (.refl _ _) ok1 v (repR_W rv)), bel_orV ha.bel hb.bel⟩
theorem se_not {f : Ev Res} (ha : SE X G Wx a f) : SE X G Wx (.UnaryOp .Not a pos) (eNotV f) :=
  ⟨PE_imp (pe_notT ha.pe) fun σ H Q ⟨R, F, L, st, ok, o⟩ => truth_of ⟨R, F, L, st, ok, OutP.bind (f := eTru f) o fun b st1 F1 L1 H1 x1 ok1 o1 => o1 F1 L1 H1 (.refl _ _) ok1 _ (.bl _)⟩, (bel_tru ha.bel).bind fun _ => .pure⟩
end

/-! ### two comparisons in a row -/
section
variable {X : Cx} {G : Cl} {Wx : WX} {a b c : Expr} {f h k : Ev Res} {pos : Pos} {op op' : CmpOp} {o1 o2 : D → D → Option Res}
theorem bel_chain (bf : Bel f) (bh : Bel h) (bk : Bel k) : Bel (eChain o1 o2 f h k) := (bel_evW bf).bind fun w => (bel_evW bh).bind fun u => fun st o st' hb e => by
  split at e
  · split at e
    · refine ((bel_evW bk).bind fun z => .same fun st o st' e => ?_) st o st' hb e
      split at e
      · unfold Ev.lift at e; split at e <;> cases e; rfl
      · cases e
    · cases e; exact .refl _
    · cases e
  · cases e
theorem tChain_of {K : PySem.W.Frag} {σ : L2.St} {H : Hp} {Q : VK} (t : tE K G Wx (eChain o1 o2 f h k) σ H Q) : tChain (rD K G o1) (rD K G o2) (tE K G Wx f) (tE K G Wx h) (tE K G Wx k) σ H Q := by
  obtain ⟨R, F, L, st, ok, o⟩ := t
  refine tE_W ok (OutP.bind (f := evW f) o fun w st1 F1 L1 H1 x1 ok1 q1 v rv => ?_)
  refine tE_W ok1 (OutP.bind (f := evW h) q1 fun u st2 F2 L2 H2 x2 ok2 q2 v2 ru => ?_)
  cases e1 : view st2.M w with
  | none => rw [e1] at q2; exact q2.elim
  | some a =>
    cases e2 : view st2.M u with
    | none => rw [e1, e2] at q2; exact q2.elim
    | some b =>
      rw [e1, e2] at q2
      dsimp only at q2
      have ra := ok2.rel.view (rv.ext x2) e1
      have rb := ok2.rel.view ru e2
      split at q2
      · rename_i er
        refine ⟨R, F2, L2, st2.M, a, b, _, ok2.rel, ra, rb, er, fun z F' H' s rel rr => ?_⟩
        cases rr
        refine ⟨true, rfl, ?_⟩
        rw [if_pos rfl]
        have ok3 := ok2.with s rel
        refine tE_W ok3 (OutP.bind (f := evW k) (OutP.ext (.frz s) q2) fun z st4 F4 L4 H4 x4 ok4 q4 v4 rz => ?_)
        cases e3 : view st4.M u with
        | none => rw [e3] at q4; exact q4.elim
        | some b' =>
          cases e4 : view st4.M z with
          | none => rw [e3, e4] at q4; exact q4.elim
          | some c' =>
            rw [e3, e4] at q4
            obtain ⟨r, er', q5⟩ := OutP.lift q4
            exact ⟨R, F4, L4, st4.M, b', c', r, ok4.rel, ok4.rel.view ((ru.ext (.frz s)).ext x4) e3, ok4.rel.view rz e4, er', fun y F' H' s rel rr => q5 F' L4 H' (.frz s) (ok4.with s rel) y rr⟩
      · rename_i er
        refine ⟨R, F2, L2, st2.M, a, b, _, ok2.rel, ra, rb, er, fun z F' H' s rel rr => ?_⟩
        cases rr
        refine ⟨false, rfl, ?_⟩
        rw [if_neg Bool.false_ne_true]
        exact q2 F' L2 H' (.frz s) (ok2.with s rel) _ (.bl false)
      · exact q2.elim
theorem se_chain (h1 : OpR X (compareOp op) (rD X.K G o1)) (h2 : OpR X (compareOp op') (rD X.K G o2)) (ha : SE X G Wx a f) (hb : SE X G Wx b h) (hc : SE X G Wx c k)
    (hm : lastMarks [op, op'] [b, c] = false := by with_unfolding_all rfl) : SE X G Wx (.Compare a [op, op'] [b, c] pos) (eChain o1 o2 f h k) :=
  ⟨PE_imp (pe_chain h1 h2 ha.pe hb.pe hc.pe hm) fun _ _ _ t => tChain_of t, bel_chain ha.bel hb.bel hc.bel⟩
theorem st_chain (h1 : OpR X (compareOp op) (rD X.K G o1)) (h2 : OpR X (compareOp op') (rD X.K G o2)) (ha : SE X G Wx a f) (hb : SE X G Wx b h) (hc : SE X G Wx c k)
    (hm : lastMarks [op, op'] [b, c] = false := by with_unfolding_all rfl) : ST X G Wx (.Compare a [op, op'] [b, c] pos) (eB (eChain o1 o2 f h k)) :=
  ⟨PT_imp (pt_chain h1 h2 ha.pe hb.pe hc.pe hm) fun _ _ _ t => by
    obtain ⟨R, F, L, st, ok, o⟩ := tB_of t
    exact tChain_of ⟨R, F, L, st, ok, o⟩, bel_B (bel_chain ha.bel hb.bel hc.bel)⟩
end
end Pm

set_option maxHeartbeats 2000000
/-! Q3: statements, loops, defs and their calls -/
namespace Pm
open PySem PyProof.Rows L2

/-- how a statement ends -/
inductive Fl where
  | nx | ret (r : Res) | brk | ct
  deriving Inhabited

section
variable (K : PySem.W.Frag) (G : Cl) (Wx : WX) (R F : Hp) (L : List Addr)
def OutS (D : Ends) : Option (Out Fl × S) → Prop
  | none => False
  | some (.exc x, st) => ∀ σ, OutX K G Wx R F L σ x st
  | some (.ok fl, st) => ∀ σ' F' L' H', Ext F F' L L' → Ok K G R F' L' st σ' H' → match fl with
    | .nx => D.nx σ' H'
    | .ret r => ∀ v, RepR K G R F' L' st.M H' r v → D.rt v H'
    | .brk => D.bk σ' H'
    | .ct => D.ct σ' H'
end
def tS (K : PySem.W.Frag) (G : Cl) (Wx : WX) (f : Ev Fl) : TS := fun D σ H => ∃ R F L st, Ok K G R F L st σ H ∧ OutS K G Wx R F L D (f st)
structure SS (X : Cx) (G : Cl) (Wx : WX) (s : Stmt) (f : Ev Fl) : Prop where
  ps : PS X s (tS X.K G Wx f)
  bel : Bel f
structure SB (X : Cx) (G : Cl) (Wx : WX) (s : List Stmt) (f : Ev Fl) : Prop where
  pss : PSs X s (tS X.K G Wx f)
  bel : Bel f
theorem PS_imp {X : Cx} {e : Stmt} {t t' : TS} (h : PS X e t) (k : ∀ D σ H, t' D σ H → t D σ H) : PS X e t' :=
  ⟨fun pins s σ H D I hw => h.run pins s σ H D I (k D σ H hw)⟩
theorem PSs_imp {X : Cx} {e : List Stmt} {t t' : TS} (h : PSs X e t) (k : ∀ D σ H, t' D σ H → t D σ H) : PSs X e t' :=
  ⟨fun pins s σ H D I hw => h.run pins s σ H D I (k D σ H hw)⟩
section
variable {K : PySem.W.Frag} {G : Cl} {Wx : WX} {R F F' : Hp} {L L' : List Addr} {σ : L2.St} {H : Hp} {st : S} {D : Ends}
theorem OutS.ext (x : Ext F F' L L') {o : Option (Out Fl × S)} (h : OutS K G Wx R F L D o) : OutS K G Wx R F' L' D o := by
  cases o with
  | none => exact h
  | some p =>
    obtain ⟨out, st⟩ := p
    cases out with
    | exc e => exact fun σ => OutX.ext x (h σ)
    | ok fl => exact fun σ2 F2 L2 H2 y ok => h σ2 F2 L2 H2 (x.trans y) ok
/-- an expression ahead -/
theorem OutS.bind {α : Type} {f : Ev α} {k : α → Ev Fl} {P' : α → S → Hp → List Addr → Hp → Prop} (h : OutS K G Wx R F L D (Ev.bind f k st))
    (q : ∀ a st1 F1 L1 H1, Ext F F1 L L1 → Ok K G R F1 L1 st1 σ H1 → OutS K G Wx R F1 L1 D (k a st1) → P' a st1 F1 L1 H1) : OutP K G Wx R F L σ P' (f st) := by
  unfold Ev.bind at h
  cases e : f st with
  | none => rw [e] at h; exact h
  | some p =>
    obtain ⟨out, st1⟩ := p
    rw [e] at h
    cases out with
    | exc x => exact h σ
    | ok a => exact fun F1 L1 H1 x1 ok1 => q a st1 F1 L1 H1 x1 ok1 (OutS.ext x1 h)
/-- a statement ahead -/
theorem OutS.seq {f : Ev Fl} {k : Fl → Ev Fl} {D' : Ends} (h : OutS K G Wx R F L D (Ev.bind f k st))
    (q : ∀ fl st1 σ1 F1 L1 H1, Ext F F1 L L1 → Ok K G R F1 L1 st1 σ1 H1 → OutS K G Wx R F1 L1 D (k fl st1) → match fl with
    | .nx => D'.nx σ1 H1
    | .ret r => ∀ v, RepR K G R F1 L1 st1.M H1 r v → D'.rt v H1
    | .brk => D'.bk σ1 H1
    | .ct => D'.ct σ1 H1) : OutS K G Wx R F L D' (f st) := by
  unfold Ev.bind at h
  cases e : f st with
  | none => rw [e] at h; exact h
  | some p =>
    obtain ⟨out, st1⟩ := p
    rw [e] at h
    cases out with
    | exc x => exact h
    | ok fl => exact fun σ1 F1 L1 H1 x1 ok1 => q fl st1 σ1 F1 L1 H1 x1 ok1 (OutS.ext x1 h)
end

/-! ### blocks -/
def fNx : Ev Fl := fun st => some (.ok .nx, st)
def fGo (h : Ev Fl) : Fl → Ev Fl
  | .nx => h
  | fl => fun st => some (.ok fl, st)
def fSeq (f h : Ev Fl) : Ev Fl := f.bind (fGo h)
section
variable {X : Cx} {G : Cl} {Wx : WX} {s : Stmt} {r : List Stmt} {f h : Ev Fl} {pos : Pos}
theorem sb_nil : SB X G Wx [] fNx := ⟨PSs_imp pss_nil fun D σ H ⟨R, F, L, st, ok, o⟩ => o σ F L H (.refl _ _) ok, .pure⟩
theorem sb_one (hs : SS X G Wx s f) : SB X G Wx [s] f := ⟨pss_one hs.ps, hs.bel⟩
theorem sb_cons (hs : SS X G Wx s f) (hr : SB X G Wx r h) : SB X G Wx (s :: r) (fSeq f h) :=
  ⟨PSs_imp (pss_cons hs.ps hr.pss) fun D σ H ⟨R, F, L, st, ok, o⟩ => ⟨R, F, L, st, ok, OutS.seq (f := f) o fun fl st1 σ1 F1 L1 H1 x1 ok1 o1 => by
    cases fl with
    | nx => exact ⟨R, F1, L1, st1, ok1, o1⟩
    | ret v => exact o1 σ1 F1 L1 H1 (.refl _ _) ok1
    | brk => exact o1 σ1 F1 L1 H1 (.refl _ _) ok1
    | ct => exact o1 σ1 F1 L1 H1 (.refl _ _) ok1⟩, hs.bel.bind fun fl => by cases fl <;> first | exact hr.bel | exact .pure⟩
theorem ss_pass : SS X G Wx (.Pass pos) fNx := ⟨PS_imp ps_pass fun D σ H ⟨R, F, L, st, ok, o⟩ => o σ F L H (.refl _ _) ok, .pure⟩
def fBrk : Ev Fl := fun st => some (.ok .brk, st)
def fCt : Ev Fl := fun st => some (.ok .ct, st)
theorem ss_break : SS X G Wx (.Break pos) fBrk := ⟨PS_imp ps_break fun D σ H ⟨R, F, L, st, ok, o⟩ => o σ F L H (.refl _ _) ok, .pure⟩
theorem ss_continue : SS X G Wx (.Continue pos) fCt := ⟨PS_imp ps_continue fun D σ H ⟨R, F, L, st, ok, o⟩ => o σ F L H (.refl _ _) ok, .pure⟩
/-- never reached -/
theorem ss_never : SS X G Wx s Ev.fail := ⟨PS_imp ps_never fun D σ H ⟨R, F, L, st, ok, o⟩ => o, .fail'⟩
theorem sb_never {l : List Stmt} : SB X G Wx l Ev.fail := ⟨PSs_imp pss_never fun D σ H ⟨R, F, L, st, ok, o⟩ => o, .fail'⟩
def fExpr (f : Ev Res) : Ev Fl := f.bind fun _ => fNx
theorem ss_expr {e : Expr} {f : Ev Res} (he : SE X G Wx e f) (hs : swapsWith e none pos.line X.env = pure false := by rfl) : SS X G Wx (.Expr e pos) (fExpr f) :=
  ⟨PS_imp (ps_expr he.pe hs) fun D σ H ⟨R, F, L, st, ok, o⟩ => tE_of ok (OutS.bind (f := f) o fun r st1 F1 L1 H1 x1 ok1 o1 v rv => o1 σ F1 L1 H1 (.refl _ _) ok1), he.bel.bind fun _ => .pure⟩
def fRet (f : Ev Res) : Ev Fl := f.bind fun r => fun st => some (.ok (.ret r), st)
theorem ss_ret {e : Expr} {f : Ev Res} (he : SE X G Wx e f) : SS X G Wx (.Return (some e) pos) (fRet f) :=
  ⟨PS_imp (ps_ret he.pe) fun D σ H ⟨R, F, L, st, ok, o⟩ => tE_of ok (OutS.bind (f := f) o fun r st1 F1 L1 H1 x1 ok1 o1 v rv => o1 σ F1 L1 H1 (.refl _ _) ok1 v rv), he.bel.bind fun _ => .pure⟩
def fRetN : Ev Fl := fun st => some (.ok (.ret (.d .non)), st)
theorem ss_retN : SS X G Wx (.Return none pos) fRetN := ⟨PS_imp ps_retN fun D σ H ⟨R, F, L, st, ok, o⟩ => o σ F L H (.refl _ _) ok _ .non, .pure⟩
def fIf (c : Ev Bool) (f h : Ev Fl) : Ev Fl := c.bind fun b => if b then f else h
theorem ss_if {c : Expr} {a b : List Stmt} {t : Ev Bool} (hc : ST X G Wx c t) (ha : SB X G Wx a f) (hb : SB X G Wx b h) : SS X G Wx (.If c a b pos) (fIf t f h) :=
  ⟨PS_imp (ps_if hc.pt ha.pss hb.pss) fun D σ H ⟨R, F, L, st, ok, o⟩ => ⟨R, F, L, st, ok, OutS.bind (f := t) o fun c st1 F1 L1 H1 x1 ok1 o1 => by
    cases c with
    | true => exact ⟨R, F1, L1, st1, ok1, o1⟩
    | false => exact ⟨R, F1, L1, st1, ok1, o1⟩⟩, hc.bel.bind fun _ => bel_ite ha.bel hb.bel⟩
/-! ### stores to names -/
theorem Ok.setSl {K : PySem.W.Frag} {R F H : Hp} {L : List Addr} {st : S} {σ : L2.St} {w : W} {v : V} (ok : Ok K G R F L st σ H) (i : Nat) (r : RepW K G.at_ F L w v) :
    Ok K G R F L ⟨st.sl.set i (.w w), st.M, st.b⟩ (σ.set i (some v)) H :=
  ⟨ok.rel, by simpa using ok.len, fun j s e => by
    by_cases h : i = j
    · subst h
      by_cases hl : i < st.sl.length
      · rw [List.getElem?_set_self hl] at e; cases e
        exact ⟨v, by rw [List.getElem?_set_self (by rw [← ok.len]; exact hl)], r⟩
      · rw [List.getElem?_eq_none (by simpa using Nat.le_of_not_lt hl)] at e; cases e
    · rw [List.getElem?_set_ne h] at e
      have q := ok.sl j s e
      cases s with
      | no => trivial
      | w x => obtain ⟨v', e', r'⟩ := q; exact ⟨v', by rw [List.getElem?_set_ne h]; exact e', r'⟩
      | ex c fs => obtain ⟨e', r'⟩ := q; exact ⟨by rw [List.getElem?_set_ne h]; exact e', r'⟩⟩
def fSet (i : Nat) (f : Ev W) : Ev Fl := f.bind fun w => fun st => some (.ok .nx, ⟨st.sl.set i (.w w), st.M, st.b⟩)
theorem ss_set {i : Nat} {x : Str} {e : Expr} {f : Ev Res} {h : Ev W} {pos' : Pos} (hN : X.N.Nodup) (hw : AsW f h) (he : SE X G Wx e f) (hi : X.N[i]? = some x := by rfl) (hx : Loc X.env.scope x := by first | exact Or.inl rfl | exact Or.inr rfl)
    (hs : swapsWith e (some (.Name x pos')) pos.line X.env = pure false := by rfl) (hf : X.fn x = true ∨ X.env.scope.names.lookup x = some .local := by first | exact .inl rfl | exact .inr rfl | assumption) :
    SS X G Wx (.Assign [.Name x pos'] e pos) (fSet i h) :=
  ⟨PS_imp (ps_set hN hi hx he.pe hs hf) fun D σ H ⟨R, F, L, st, ok, o⟩ => tE_of ok (hw.out (OutS.bind (f := h) o fun w st1 F1 L1 H1 x1 ok1 o1 v rv => o1 _ F1 L1 H1 (.refl _ _) (ok1.setSl i rv))), (hw.bel he.bel).bind fun w => fun st o st' _ e => by cases e; exact .refl _⟩
end

/-! ### targets -/
/-- no places but these were touched -/
def Tch (vs : List Nat) (σ σ' : L2.St) : Prop := σ'.length = σ.length ∧ ∀ i, i ∉ vs → σ'[i]? = σ[i]?
theorem Tch.refl (vs : List Nat) (σ : L2.St) : Tch vs σ σ := ⟨rfl, fun _ _ => rfl⟩
theorem Tch.trans {vs ws : List Nat} {a b c : L2.St} (h : Tch vs a b) (k : Tch ws b c) : Tch (vs ++ ws) a c :=
  ⟨k.1.trans h.1, fun i hi => (k.2 i fun z => hi (List.mem_append_right _ z)).trans (h.2 i fun z => hi (List.mem_append_left _ z))⟩
theorem Tch.set (σ : L2.St) (i : Nat) (v : Option V) : Tch [i] σ (σ.set i v) := ⟨by simp, fun j hj => by rw [List.getElem?_set_ne (by simp at hj; exact fun z => hj z.symm)]⟩
def tG (K : PySem.W.Frag) (G : Cl) (k : D → S → Option S) (vs : List Nat) : TG := fun v σ H Q => ∃ R F L st d st', Ok K G R F L st σ H ∧ Rep K G.at_ F d v ∧ k d st = some st' ∧ ∀ σ' F' H', Sub F F' → Tch vs σ σ' → Ok K G R F' L st' σ' H' → Q σ' H'
def tGs (K : PySem.W.Frag) (G : Cl) (k : List D → S → Option S) (ws : List Nat) : TGs := fun vs σ H Q => ∃ R F L st ds st', Ok K G R F L st σ H ∧ Reps K G.at_ F ds vs ∧ k ds st = some st' ∧ ∀ σ' F' H', Sub F F' → Tch ws σ σ' → Ok K G R F' L st' σ' H' → Q σ' H'
structure SG (X : Cx) (G : Cl) (tg : Expr) (k : D → S → Option S) (vs : List Nat) : Prop where
  bel : ∀ d st st', st.b ≤ st.M.length → k d st = some st' → Le st st'
  pg : PG X tg (tG X.K G k vs)
structure SGs (X : Cx) (G : Cl) (tg : List Expr) (k : List D → S → Option S) (vs : List Nat) : Prop where
  bel : ∀ d st st', st.b ≤ st.M.length → k d st = some st' → Le st st'
  pgs : PGs X tg (tGs X.K G k vs)
theorem PG_imp {X : Cx} {e : Expr} {t t' : TG} (h : PG X e t) (k : ∀ v σ H Q, t' v σ H Q → t v σ H Q) : PG X e t' :=
  ⟨fun pins s σ H v u Q I r hw => h.run pins s σ H v u Q I r (k v σ H Q hw)⟩
theorem PGs_imp {X : Cx} {e : List Expr} {t t' : TGs} (h : PGs X e t) (k : ∀ v σ H Q, t' v σ H Q → t v σ H Q) : PGs X e t' :=
  ⟨fun pins s σ H v u Q I r hw => h.run pins s σ H v u Q I r (k v σ H Q hw)⟩
section
variable {X : Cx} {G : Cl} {Wx : WX} {pos : Pos}
def kName (i : Nat) : D → S → Option S := fun d st => some ⟨st.sl.set i (.w (.d d)), st.M, st.b⟩
theorem sg_name {x : Str} (i : Nat) (hN : X.N.Nodup) (hi : X.N[i]? = some x := by rfl) (hx : Loc X.env.scope x := by first | exact Or.inl rfl | exact Or.inr rfl)
    (hf : X.fn x = true ∨ X.env.scope.names.lookup x = some .local := by first | exact .inl rfl | exact .inr rfl | assumption) : SG X G (.Name x pos) (kName i) [i] :=
  ⟨fun d st st' _ e => by cases e; exact .refl _, PG_imp (pg_name hN hi hx hf) fun v σ H Q ⟨R, F, L, st, d, st', ok, r, e, q⟩ => by
    cases e
    exact q _ F H (.refl _) (Tch.set _ _ _) (ok.setSl i (w := .d d) r)⟩
def kNil : List D → S → Option S
  | [], st => some st
  | _, _ => none
def kCons (k : D → S → Option S) (r : List D → S → Option S) : List D → S → Option S
  | d :: ds, st => match k d st with
    | some st' => r ds st'
    | none => none
  | [], _ => none
def kTup (r : List D → S → Option S) : D → S → Option S
  | .tup ds, st => r ds st
  | _, _ => none
theorem sgs_nil : SGs X G [] kNil [] := ⟨fun d st st' _ e => by cases d <;> cases e; exact .refl _, PGs_imp pgs_nil fun vs σ H Q ⟨R, F, L, st, ds, st', ok, r, e, q⟩ => by
  cases r with
  | nil => cases e; exact ⟨rfl, q σ F H (.refl _) (.refl _ _) ok⟩
  | cons _ _ => cases e⟩
theorem sgs_cons {e : Expr} {es : List Expr} {k : D → S → Option S} {r : List D → S → Option S} {vs ws : List Nat} (h1 : SG X G e k vs) (h2 : SGs X G es r ws)
    (hs : (assignEach (e :: es) X.env).map (·.2) = assign e X.env :: (assignEach es X.env).map (·.2) := by rfl) : SGs X G (e :: es) (kCons k r) (vs ++ ws) :=
  ⟨(fun d st st' hb e => by
    cases d with
    | nil => cases e
    | cons d ds =>
      simp only [kCons] at e
      split at e
      · rename_i st1 e1
        have l1 := h1.bel _ _ _ hb e1
        exact l1.trans (h2.bel _ _ _ (l1.ok hb) e)
      · cases e), PGs_imp (pgs_cons h1.pg h2.pgs hs) fun vs σ H Q ⟨R, F, L, st, ds, st', ok, rr, e, q⟩ => by
    cases rr with
    | nil => cases e
    | cons r1 r2 =>
      simp only [kCons] at e
      split at e
      · rename_i st1 e1
        exact ⟨_, _, rfl, R, F, L, st, _, st1, ok, r1, e1, fun σ' F' H' s t ok' => ⟨R, F', L, st1, _, st', ok', r2.mono s, e, fun σ'' F'' H'' s' t' ok'' => q σ'' F'' H'' (s.trans s') (t.trans t') ok''⟩⟩
      · cases e⟩
theorem kLen : ∀ {n : Nat} {r : List D → S → Option S}, (∀ ds st st', r ds st = some st' → ds.length = n) → ∀ {k : D → S → Option S} ds st st', kCons k r ds st = some st' → ds.length = n + 1
  | n, r, h, k, [], st, st', e => by cases e
  | n, r, h, k, d :: ds, st, st', e => by
    simp only [kCons] at e
    split at e
    · simp [h _ _ _ e]
    · cases e
theorem kLen0 : ∀ ds st st', kNil ds st = some st' → ds.length = 0
  | [], st, st', e => rfl
  | _ :: _, _, _, e => by cases e
theorem sg_tup {es : List Expr} {k : Nat} {r : List D → S → Option S} {n : Nat} {vs : List Nat} (hc : X.calm = true) (h : SGs X G es r vs) (hl : ∀ ds st st', r ds st = some st' → ds.length = n)
    (hn : (assignEach es X.env).length = n := by rfl) (hst : (assignEach es X.env).findIdx? (·.1) = none := by rfl) : SG X G (.Tuple es k pos) (kTup r) vs :=
  ⟨(fun d st st' hb e => by
    cases d <;> first | exact h.bel _ _ _ hb e | cases e), PG_imp (pg_tup hc h.pgs hn hst) fun v σ H Q ⟨R, F, L, st, d, st', ok, rr, e, q⟩ => by
    cases rr with
    | tup s r2 =>
      exact ⟨_, _, rfl, sub_t ok.rel.fh s, by rw [← r2.length]; exact hl _ _ _ e, R, F, L, st, _, st', ok, r2, e, q⟩
    | _ => cases e⟩
/-- a, b = e -/
def fAsg (f : Ev D) (k : D → S → Option S) : Ev Fl := f.bind fun d => fun st => match k d st with
  | some st' => some (.ok .nx, st')
  | none => none
theorem ss_asg {tg e : Expr} {f : Ev Res} {k : D → S → Option S} {vs : List Nat} (he : SE X G Wx e f) (hg : SG X G tg k vs) (hs : swapsWithSole [tg] e pos.line X.env = pure false := by rfl) (hw : swappedStores [tg] e X.env = pure none := by rfl)
    (h1 : (assignEach [tg] X.env).map (·.2) = [assign tg X.env] := by rfl) : SS X G Wx (.Assign [tg] e pos) (fAsg (evD f) k) :=
  ⟨PS_imp (ps_asg he.pe hg.pg hs hw h1) fun D σ H ⟨R, F, L, st, ok, o⟩ => tE_D ok (OutS.bind (f := evD f) o fun d st1 F1 L1 H1 x1 ok1 o1 v rv => by
    cases e : k d st1 with
    | none => rw [e] at o1; exact o1.elim
    | some st2 =>
      rw [e] at o1
      exact ⟨R, F1, L1, st1, d, st2, ok1, rv, e, fun σ' F' H' s _ ok' => o1 σ' F' L1 H' (.frz s) ok'⟩), (bel_evD he.bel).bind fun d => fun st o st' hb e => by
    cases e1 : k d st with
    | none => rw [e1] at e; cases e
    | some st1 => rw [e1] at e; cases e; exact hg.bel _ _ _ hb e1⟩
end

/-! ### loops -/
/-- what is walked gives these data, turn by turn -/
def ItOk (K : PySem.W.Frag) (g : Nat → Addr) (F : Hp) (ds : List D) (J : It) : Prop := ∀ i R F' L' M' H', Sub F F' → Rel K g R F' L' M' H' →
  (∀ d, ds[i]? = some d → J.go i H' ∧ ∀ x H'', J.yld i H' x H'' → ∃ F'', Sub F' F'' ∧ Rel K g R F'' L' M' H'' ∧ Rep K g F'' d x) ∧ (i = ds.length → J.stop i H')
abbrev OutI (K : PySem.W.Frag) (G : Cl) (Wx : WX) (R F : Hp) (L : List Addr) (σ : L2.St) (Q : It → Hp → Prop) : Option (Out (List D) × S) → Prop := OutP K G Wx R F L σ fun ds _ F' _ H' => ∀ J, ItOk K G.at_ F' ds J → Q J H'
def tI (K : PySem.W.Frag) (G : Cl) (Wx : WX) (f : Ev (List D)) : TI := fun σ H Q => ∃ R F L st, Ok K G R F L st σ H ∧ OutI K G Wx R F L σ Q (f st)
structure SI (X : Cx) (G : Cl) (Wx : WX) (tg iter : Expr) (f : Ev (List D)) : Prop where
  pi : PI X tg iter (tI X.K G Wx f)
  bel : Bel f
theorem PI_imp {X : Cx} {tg e : Expr} {t t' : TI} (h : PI X tg e t) (k : ∀ σ H Q, t' σ H Q → t σ H Q) : PI X tg e t' :=
  ⟨fun pins s σ H R I hw => h.run pins s σ H R I (k σ H R hw)⟩
def fLoopGo (k : Ev Fl) : Fl → Ev Fl
  | .nx => k
  | .ct => k
  | .brk => fNx
  | .ret r => fun st => some (.ok (.ret r), st)
def fLoop (tg : D → S → Option S) (body : Ev Fl) : List D → Ev Fl
  | [] => fNx
  | d :: r => fun st => match tg d st with
    | none => none
    | some st' => (body.bind (fLoopGo (fLoop tg body r))) st'
def fFor (it : Ev (List D)) (tg : D → S → Option S) (body : Ev Fl) : Ev Fl := it.bind fun ds => fLoop tg body ds
theorem bel_go {k : Ev Fl} (h : Bel k) : ∀ fl, Bel (fLoopGo k fl)
  | .nx => h
  | .ct => h
  | .brk => .pure
  | .ret _ => .pure
theorem bel_loop {tg : D → S → Option S} {body : Ev Fl} (ht : ∀ d st st', st.b ≤ st.M.length → tg d st = some st' → Le st st') (hb : Bel body) : ∀ ds, Bel (fLoop tg body ds)
  | [] => .pure
  | d :: r => fun st o st' hs e => by
    simp only [fLoop] at e
    cases e1 : tg d st with
    | none => rw [e1] at e; cases e
    | some st1 =>
      rw [e1] at e
      have l1 := ht _ _ _ hs e1
      exact l1.trans ((hb.bind (bel_go (bel_loop ht hb r))) _ _ _ (l1.ok hs) e)
section
variable {X : Cx} {G : Cl} {Wx : WX} {pos : Pos}
theorem ss_for {tg iter : Expr} {body : List Stmt} {fi : Ev (List D)} {k : D → S → Option S} {vs : List Nat} {fb : Ev Fl} (hp : PassesOwn (model X.prog X.w) X.A X.env X.xe) (hi : SI X G Wx tg iter fi) (hg : SG X G tg k vs) (hb : SB X G Wx body fb)
    (hc : X.calm = true := by rfl) (hs : ∀ x, foldedSetIterable iter X.env x = pure x := by intro _; rfl) : SS X G Wx (.For tg iter body [] pos) (fFor fi k fb) :=
  ⟨PS_imp (ps_for hp hc hi.pi hg.pg hb.pss hs) fun D σ H ⟨R, F, L, st, ok, o⟩ => ⟨R, F, L, st, ok, OutS.bind (f := fi) o fun ds st1 F1 L1 H1 x1 ok1 o1 J itok => by
    refine ⟨fun i m σ H => m = ds.length - i ∧ i ≤ ds.length ∧ ∃ F' L' st', Sub F1 F' ∧ Ok X.K G R F' L' st' σ H ∧ OutS X.K G Wx R F' L' D (fLoop k fb (ds.drop i) st'), ⟨_, rfl, Nat.zero_le _, F1, L1, st1, .refl _, ok1, o1⟩, ?_⟩
    rintro i m σ2 H2 ⟨rfl, hil, F2, L2, st2, s2, ok2, o2⟩
    obtain ⟨hgo, hstop⟩ := itok i R F2 L2 st2.M H2 s2 ok2.rel
    rcases Nat.lt_or_ge i ds.length with h | h
    · right
      have e : ds[i]? = some ds[i] := List.getElem?_eq_getElem h
      obtain ⟨g1, g2⟩ := hgo _ e
      refine ⟨g1, fun σ' H' => ∃ m', m' < ds.length - i ∧ m' = ds.length - (i + 1) ∧ i + 1 ≤ ds.length ∧ ∃ F' L' st', Sub F1 F' ∧ Ok X.K G R F' L' st' σ' H' ∧ OutS X.K G Wx R F' L' D (fLoop k fb (ds.drop (i + 1)) st'),
        fun σ' H' ⟨m', h1, h2, h3, h4⟩ => ⟨m', h1, h2, h3, h4⟩, fun x H3 hy => ?_⟩
      obtain ⟨F3, s3, rel3, r3⟩ := g2 x H3 hy
      rw [List.drop_eq_getElem_cons h] at o2
      simp only [fLoop] at o2
      have ok3 := ok2.with s3 rel3
      cases ek : k ds[i] st2 with
      | none => rw [ek] at o2; exact o2.elim
      | some st4 =>
        rw [ek] at o2
        refine ⟨R, F3, L2, st2, ds[i], st4, ok3, r3, ek, fun σ4 F4 H4 s4 _ ok4 => ⟨R, F4, L2, st4, ok4, OutS.seq (f := fb) (OutS.ext (.frz (s3.trans s4)) o2) fun fl st5 σ5 F5 L5 H5 x5 ok5 o5 => ?_⟩⟩
        have nxt : OutS X.K G Wx R F5 L5 D (fLoop k fb (ds.drop (i + 1)) st5) → ∃ m', m' < ds.length - i ∧ m' = ds.length - (i + 1) ∧ i + 1 ≤ ds.length ∧ ∃ F' L' st', Sub F1 F' ∧ Ok X.K G R F' L' st' σ5 H5 ∧ OutS X.K G Wx R F' L' D (fLoop k fb (ds.drop (i + 1)) st') :=
          fun q => ⟨_, by omega, rfl, by omega, F5, L5, st5, ((s2.trans s3).trans s4).trans x5.f, ok5, q⟩
        cases fl with
        | nx => exact nxt o5
        | ct => exact nxt o5
        | brk => exact o5 σ5 F5 L5 H5 (.refl _ _) ok5
        | ret r => exact o5 σ5 F5 L5 H5 (.refl _ _) ok5
    · left
      have e : i = ds.length := by omega
      refine ⟨hstop e, ?_⟩
      rw [List.drop_eq_nil_of_le h] at o2
      exact o2 σ2 F2 L2 H2 (.refl _ _) ok2⟩, hi.bel.bind fun ds => bel_loop hg.bel hb.bel ds⟩
/-- a while, so many turns at most -/
def fWhileN (c : Ev Bool) (body : Ev Fl) : Nat → Ev Fl
  | 0 => fun _ => none
  | n + 1 => c.bind fun b => if b then body.bind (fLoopGo (fWhileN c body n)) else fNx
def fWhile (n : Nat) (c : Ev Bool) (body : Ev Fl) : Ev Fl := fWhileN c body n
theorem bel_while {c : Ev Bool} {body : Ev Fl} (hc : Bel c) (hb : Bel body) : ∀ n, Bel (fWhileN c body n)
  | 0 => .fail
  | n + 1 => hc.bind fun b => bel_ite (hb.bind (bel_go (bel_while hc hb n))) .pure
theorem ss_while {c : Expr} {body : List Stmt} {fc : Ev Bool} {fb : Ev Fl} {n : Nat} (hp : PassesOwn (model X.prog X.w) X.A X.env X.xe) (hc : ST X G Wx c fc) (hb : SB X G Wx body fb) : SS X G Wx (.While c body [] pos) (fWhile n fc fb) :=
  ⟨PS_imp (ps_while hp hc.pt hb.pss) fun D σ H ⟨R, F, L, st, ok, o⟩ => by
    refine ⟨fun m σ H => ∃ F' L' st', Ok X.K G R F' L' st' σ H ∧ OutS X.K G Wx R F' L' D (fWhileN fc fb m st'), ⟨n, F, L, st, ok, o⟩, ?_⟩
    rintro m σ2 H2 ⟨F2, L2, st2, ok2, o2⟩
    cases m with
    | zero => exact o2.elim
    | succ m =>
      refine ⟨R, F2, L2, st2, ok2, OutS.bind (f := fc) o2 fun b st3 F3 L3 H3 x3 ok3 o3 => ?_⟩
      cases b with
      | false => rw [if_neg Bool.false_ne_true]; exact o3 σ2 F3 L3 H3 (.refl _ _) ok3
      | true =>
        rw [if_pos rfl]
        refine ⟨fun σ' H' => ∃ F' L' st', Ok X.K G R F' L' st' σ' H' ∧ OutS X.K G Wx R F' L' D (fWhileN fc fb m st'), fun σ' H' q => ⟨m, Nat.lt_succ_self _, q⟩, R, F3, L3, st3, ok3, OutS.seq (f := fb) o3 fun fl st5 σ5 F5 L5 H5 x5 ok5 o5 => ?_⟩
        cases fl with
        | nx => exact ⟨F5, L5, st5, ok5, o5⟩
        | ct => exact ⟨F5, L5, st5, ok5, o5⟩
        | brk => exact o5 σ5 F5 L5 H5 (.refl _ _) ok5
        | ret r => exact o5 σ5 F5 L5 H5 (.refl _ _) ok5, bel_while hc.bel hb.bel n⟩
end

/-! ### defs -/
abbrev Fn := List W → List (Option Cell) → Option (Out Res × List (Option Cell))
def W.belowB (b : Nat) : W → Bool
  | .d _ => true
  | .loc j => decide (j < b)
def Cell.belowB (b : Nat) : Cell → Bool
  | .lst ws => ws.all (W.belowB b)
  | .ins _ fs => fs.all fun p => p.2.belowB b
/-- what a def gives: a cell of its own is given as a fresh one -/
def retR (b : Nat) (M : List (Option Cell)) : Res → Option Res
  | .d x => some (.d x)
  | .loc j => if j < b then some (.loc j) else match M[j]? with
    | some (some c) => if c.belowB b then some (.new c) else none
    | _ => none
  | .new c => if c.belowB b then some (.new c) else none
  | .ex _ _ => none
/-- a def with n parameters, N names in all, by its body -/
def fnOf (N : Nat) (body : Ev Fl) : Fn := fun ws M => match body ⟨ws.map .w ++ List.replicate (N - ws.length) .no, M, M.length⟩ with
  | none => none
  | some (o, st) => (match o with
    | .exc x => some (.exc x, st.M.take M.length)
    | .ok .nx => some (.ok (.d .non), st.M.take M.length)
    | .ok (.ret r) => (retR M.length st.M r).map fun r' => (.ok r', st.M.take M.length)
    | .ok _ => none)
section
variable (K : PySem.W.Frag) (g : Nat → Addr) (R F : Hp) (L : List Addr)
def RepR0 (M : List (Option Cell)) (H : Hp) : Res → V → Prop
  | .d x, v => Rep K g F x v
  | .loc i, v => ∃ a, L[i]? = some a ∧ v = .ref a
  | .new c, v => ∃ a, v = .ref a ∧ RepC K g R F L H a c ∧ ∀ (i : Nat) (c' : Cell), M[i]? = some (some c') → L[i]? ≠ some a
  | .ex _ _, _ => False
def OutF (Q : VK) (E : XK) : Option (Out Res × List (Option Cell)) → Prop
  | none => False
  | some (.exc x, M) => ∀ F' L' H' dd vs, Ext F F' L L' → Rel K g R F' L' M H' → F' dd = some (.xd vs) → RepF K g F' x.fs vs → E (.ref (g x.c)) (some dd) H'
  | some (.ok r, M) => ∀ v F' L' H', Ext F F' L L' → Rel K g R F' L' M H' → RepR0 K g R F' L' M H' r v → Q v H'
end
/-- the promise of a def: it does what the function says -/
def spF (K : PySem.W.Frag) (g : Nat → Addr) (n : Nat) (fs : Fn) : Sp := fun vs H Q E => vs.length = n ∧ ∃ R F L M ws, Rel K g R F L M H ∧ RepWs K g F L ws vs ∧ OutF K g R F L Q E (fs ws M)
section
variable {K : PySem.W.Frag} {g : Nat → Addr} {R F F' : Hp} {L L' : List Addr} {M : List (Option Cell)} {H : Hp}
theorem RepW.cut {w : W} {v : V} (r : RepW K g F L' w v) (h : L <+: L') (b : w.below L.length) : RepW K g F L w v := by
  cases w with
  | d x => exact r
  | loc i =>
    obtain ⟨a, e, q⟩ := r
    obtain ⟨t, rfl⟩ := h
    have hi : i < L.length := b
    rw [List.getElem?_append_left hi] at e
    exact ⟨a, e, q⟩
theorem RepWs.cut (h : L <+: L') : ∀ {ws : List W} {vs : List V}, RepWs K g F L' ws vs → (∀ w ∈ ws, w.below L.length) → RepWs K g F L ws vs
  | _, _, .nil, _ => .nil
  | _, _, .cons r t, b => .cons (r.cut h (b _ List.mem_cons_self)) (RepWs.cut h t fun w hw => b w (List.mem_cons_of_mem _ hw))
theorem RepWF.cut (h : L <+: L') : ∀ {ws : List (Str × W)} {vs : List (Str × V)}, RepWF K g F L' ws vs → (∀ p ∈ ws, p.2.below L.length) → RepWF K g F L ws vs
  | _, _, .nil, _ => .nil
  | _, _, .cons r t, b => .cons (r.cut h (b _ List.mem_cons_self)) (RepWF.cut h t fun w hw => b w (List.mem_cons_of_mem _ hw))
theorem RepC.cut {a : Addr} {c : Cell} (r : RepC K g R F L' H a c) (h : L <+: L') (b : c.below L.length) : RepC K g R F L H a c := by
  cases c with
  | lst ws => obtain ⟨f0, r0, vs, e, q⟩ := r; exact ⟨f0, r0, vs, e, q.cut h b⟩
  | ins c fs => obtain ⟨f0, r0, dx, vs, e, eo, f1, r1, q⟩ := r; exact ⟨f0, r0, dx, vs, e, eo, f1, r1, q.cut h b⟩
theorem prefix_take {n : Nat} (h : L <+: L') (e : L.length = n) : L'.take n = L := by
  obtain ⟨t, rfl⟩ := h
  rw [← e]; simp
/-- the cells that were there -/
theorem Rel.cut (rel : Rel K g R F L' M H) (h : L <+: L') (bel : ∀ (i : Nat) (c : Cell), i < L.length → M[i]? = some (some c) → c.below L.length) (hl : L.length ≤ M.length) : Rel K g R F L (M.take L.length) H where
  fh := rel.fh
  rh := rel.rh
  fr := rel.fr
  il := by simp; omega
  ce := fun i c e => by
    have hi : i < L.length := by
      have := (List.getElem?_eq_some_iff.mp e).1
      simp at this; omega
    rw [List.getElem?_take_of_lt hi] at e
    obtain ⟨a, ha, r⟩ := rel.ce i c e
    obtain ⟨t, rfl⟩ := id h
    rw [List.getElem?_append_left hi] at ha
    exact ⟨a, ha, r.cut h (bel i c hi e)⟩
  nd := fun i j c d a e1 e2 h1 h2 => by
    have hi : i < L.length := (List.getElem?_eq_some_iff.mp h1).1
    have hj : j < L.length := (List.getElem?_eq_some_iff.mp h2).1
    rw [List.getElem?_take_of_lt hi] at e1
    rw [List.getElem?_take_of_lt hj] at e2
    exact rel.nd i j c d a e1 e2 (prefix_get h h1) (prefix_get h h2)
theorem W.bel_of {b : Nat} {w : W} (h : w.belowB b = true) : w.below b := by
  cases w with
  | d _ => trivial
  | loc j => exact (of_decide_eq_true (show decide (j < b) = true from h) : j < b)
theorem Cell.bel_of {b : Nat} {c : Cell} (h : c.belowB b = true) : c.below b := by
  cases c with
  | lst ws => exact fun w hw => W.bel_of (List.all_eq_true.mp h w hw)
  | ins c fs => exact fun p hp => W.bel_of (List.all_eq_true.mp h p hp)
end
section
variable {P : Program} {w : World} {K : PySem.W.Frag} {mg : Str → Option Value} {base : Heap}
theorem start_ok {g : Nat → Addr} {R F H : Hp} {L : List Addr} {M : List (Option Cell)} {ws : List W} {vs : List V} {N : List Str} (rel : Rel K g R F L M H) (r : RepWs K g F L ws vs) (hl : vs.length ≤ N.length) :
    Ok K ⟨g, 0, 0⟩ R F L ⟨ws.map .w ++ List.replicate (N.length - ws.length) .no, M, M.length⟩ (L2.start N vs) H := by
  have e := r.length
  refine ⟨rel, ?_, fun i s h => ?_⟩
  · simp [L2.start, e]
  · by_cases hi : i < ws.length
    · simp only at h
      rw [List.getElem?_append_left (by simpa using hi), List.getElem?_map, List.getElem?_eq_getElem hi] at h
      cases h
      obtain ⟨v, hv, rv⟩ := r.get (List.getElem?_eq_getElem hi)
      refine ⟨v, ?_, rv⟩
      unfold L2.start
      rw [List.getElem?_append_left (by simp; omega), List.getElem?_map, hv]; rfl
    · simp only at h
      rw [List.getElem?_append_right (by simpa using hi), List.getElem?_replicate] at h
      split at h
      · cases h; trivial
      · cases h
/-- a def's promise; z: where nothing is being written out (repr) -/
structure FnZ (z : Bool) (P : Program) (w : World) (K : PySem.W.Frag) (mg : Str → Option Value) (base : Heap) (cx : CXT) (k : Nat) (f : Addr) (fd : FuncData) (ps : List Str) (sp : Sp) : Prop where
  ln : ∀ xs H Q E, sp xs H Q E → xs.length = ps.length
  go : ∀ (A : Around) (os : List Env) (s : Shared) (H : Hp) (as : Args) (ys : List Value) (xs : List V) (Q : VK) (E : XK), Room k A → (z = true → A.guards = some []) → Env0 P w K mg base A os s H → BindsTo s fd as (ps.zip ys) →
    Vals xs ys → sp xs H Q E → codeAny (model P w) A (.call (.ref f) as) (CR cx os P w H s Q E) s
theorem FnZ.fn {P : Program} {w : World} {K : PySem.W.Frag} {mg : Str → Option Value} {base : Heap} {cx : CXT} {k : Nat} {f : Addr} {fd : FuncData} {ps : List Str} {sp : Sp} (F : FnZ false P w K mg base cx k f fd ps sp) : FnOk P w K mg base cx k f fd ps sp :=
  ⟨F.ln, fun A os s H as ys xs Q E r => F.go A os s H as ys xs Q E r Bool.noConfusion⟩
theorem FnZ.mono {z : Bool} {P : Program} {w : World} {K : PySem.W.Frag} {mg : Str → Option Value} {base : Heap} {cx : CXT} {j k : Nat} {f : Addr} {fd : FuncData} {ps : List Str} {sp : Sp} (F : FnZ z P w K mg base cx j f fd ps sp) (h : j ≤ k) : FnZ z P w K mg base cx k f fd ps sp :=
  ⟨F.ln, fun A os s H as ys xs Q E r => F.go A os s H as ys xs Q E (r.mono h)⟩
theorem FnZ.up {P : Program} {w : World} {K : PySem.W.Frag} {mg : Str → Option Value} {base : Heap} {cx : CXT} {k : Nat} {f : Addr} {fd : FuncData} {ps : List Str} {sp : Sp} (F : FnOk P w K mg base cx k f fd ps sp) (z : Bool) : FnZ z P w K mg base cx k f fd ps sp :=
  ⟨F.len, fun A os s H as ys xs Q E r _ => F.run A os s H as ys xs Q E r⟩
theorem fnz_of {z : Bool} {cx : CXT} {P : Program} {w : World} {K : PySem.W.Frag} {mg : Str → Option Value} {base : Heap} {k : Nat} {x qual : Str} {pa : Arguments} {body : List Stmt} {scope : Scope} {f : Addr} {fd : FuncData} {dvs : List V} {kws : List (Str × V)}
    {N ps : List Str} {sp : Sp} (F : FunD K x qual pa body scope dvs kws f fd) (Sc : FnScope N ps scope) (ln : ∀ xs H Q E, sp xs H Q E → xs.length = ps.length)
    (hb : ∀ (cdv : Value) (A : Around) (os : List Env) (s : Shared) (H : Hp) (xs : List V) (Q : VK) (E : XK), Room k (A.deeper (envOfC qual scope s.heap.objs.size f cdv)) → (z = true → (A.deeper (envOfC qual scope s.heap.objs.size f cdv)).guards = some []) → sp xs H Q E →
      ∃ t, PSs (cxOf cx P w K mg base N qual scope f cdv A os s H E) body t ∧ t { nx := fun _ H' => Q .non H', rt := Q } (start N xs) H) : FnZ z P w K mg base cx (k + 1) f fd ps sp := by
  obtain ⟨oc, od, dV, kV, doc, pm, an, cdv, ct, osl, rfl, lk, hcd, _, _⟩ := F.ex
  refine ⟨ln, fun A os s H as ys xs Q E hr hz e0 hbi rv h => ?_⟩
  have keep := fun b o e => (e0.bs b o e).1
  have KX : K.In s.heap := e0.mod.kin.keeps keep
  refine codeAny_call_function hr.depth (KX _ _ lk) rfl Sc.co Sc.gen rfl (PySem.W.codeRec_of KX hcd) (hbi _ _ _ _ ?_)
  refine wpAny_newFunctionEnv_cells Sc.kind (fun ⟨n, v⟩ hy => ?_) fun env he s1 inC => ?_
  · rcases Sc.par n (List.of_mem_zip hy).1 with q | q
    · exact .inl q
    · exact .inr ⟨q, PySem.W.cellsFrom_some _ _ _ (.inl q)⟩
  subst he
  refine ⟨(e0.mod.nolimit.keeps keep).keeps inC.toInCall.keep, codeAny_func ?_⟩
  obtain ⟨t, ht, q⟩ := hb cdv A os s H xs Q E (hr.deeper _) hz h
  have I0 := inv_start (CX := cx) (E := E) Sc hr.hd e0 (ln _ _ _ _ h) rv inC
  refine wpAny_mono (ht.run [] s1 (start N xs) H _ I0 q) (fun fl s2 h2 => ?_) fun e s2 h2 => h2
  cases fl with
  | next =>
    obtain ⟨τ, H2, J, q2⟩ := h2
    exact ⟨V.non, H2, J.os, J.bare, J.base, J.hok, rfl, q2⟩
  | ret u =>
    obtain ⟨v, τ, H2, J, r2, q2⟩ := h2
    exact ⟨v, H2, J.os, J.bare, J.base, J.hok, r2, q2⟩
  | brk => obtain ⟨_, _, _, no⟩ := h2; exact no.elim
  | cont => obtain ⟨_, _, _, no⟩ := h2; exact no.elim
/-- THE RULE for a def: its body's derivation -/
theorem fn_ok {z : Bool} {x qual : Str} {st : Stmt} {f : Addr} {fd : FuncData} {N ps : List Str} {k : Nat} {g : Nat → Addr} {fb : Ev Fl} {dvs : List V} {kws : List (Str × V)} (F : FunD K x qual (defArgs st) (defBody st) (defScope st) dvs kws f fd) (Sc : FnScope N ps (defScope st))
    (hbody : ∀ (cdv : Value) (A : Around) (outer : List Env) (s : Shared) (H : Hp) (E : XK) (Wx : WX), Room k (A.deeper (envOfC qual (defScope st) s.heap.objs.size f cdv)) → (z = true → (A.deeper (envOfC qual (defScope st) s.heap.objs.size f cdv)).guards = some []) →
      Takes (cxOf (L2.CX P w) P w K mg base N qual (defScope st) f cdv A outer s H E) Wx → PassesOwn (model P w) (A.deeper (envOfC qual (defScope st) s.heap.objs.size f cdv)) (envOfC qual (defScope st) s.heap.objs.size f cdv) (cxOf (L2.CX P w) P w K mg base N qual (defScope st) f cdv A outer s H E).xe →
      SB (cxOf (L2.CX P w) P w K mg base N qual (defScope st) f cdv A outer s H E) ⟨g, 0, 0⟩ Wx (defBody st) fb) : FnZ z P w K mg base (L2.CX P w) (k + 1) f fd ps (spF K g ps.length (fnOf N.length fb)) := by
  refine fnz_of (cx := L2.CX P w) F Sc (fun vs H Q E h => h.1) fun cdv A outer s H vs Q E hr hz h => ?_
  obtain ⟨hl, R, F0, L, M, ws, rel, r, o⟩ := h
  have hpl : ps.length ≤ N.length := by have := congrArg List.length Sc.pre; rw [List.length_take] at this; omega
  have ok := start_ok (N := N) rel r (by omega)
  have hbd := hbody cdv A outer s H E (fun cls d _ H' => E cls d H') hr hz (takes_of rfl rfl rfl rfl) (passes_of rfl)
  have hbel0 := hbd.bel
  refine ⟨_, hbd.pss, R, F0, L, _, ok, ?_⟩
  unfold fnOf at o
  have il := rel.il
  cases e : fb ⟨ws.map .w ++ List.replicate (N.length - ws.length) .no, M, M.length⟩ with
  | none => rw [e] at o; exact o.elim
  | some p =>
    obtain ⟨out, st1⟩ := p
    rw [e] at o
    dsimp only at o
    · have cutR : ∀ {F' L' σ' H'}, Ext F0 F' L L' → Ok K ⟨g, 0, 0⟩ R F' L' st1 σ' H' → Rel K g R F' L (st1.M.take M.length) H' := fun {F' L' σ' H'} x1 ok1 => by
        have le : Le _ st1 := hbel0 _ _ _ (Nat.le_refl _) e
        rw [← il]
        refine ok1.rel.cut x1.l (fun i c hi h => ?_) ?_
        · obtain ⟨c0, e0, q0⟩ := le.2.2 i c (by rw [← il]; exact hi) h
          obtain ⟨a, ha, rc⟩ := rel.ce i c0 e0
          exact q0 _ rc.below
        · have := le.2.1; simp only at this; omega
      cases out with
      | exc x => exact fun σ' F' L' H' dd vs x1 ok1 hd rf => o F' L H' dd vs ⟨x1.f, List.prefix_rfl⟩ (cutR x1 ok1) hd rf
      | ok fl =>
        cases fl with
        | nx => exact fun σ' F' L' H' x1 ok1 => o .non F' L H' ⟨x1.f, List.prefix_rfl⟩ (cutR x1 ok1) .non
        | brk => exact o.elim
        | ct => exact o.elim
        | ret r =>
          dsimp only at o
          cases er : retR M.length st1.M r with
          | none => rw [er] at o; exact o.elim
          | some r' =>
            rw [er] at o
            intro σ' F' L' H' x1 ok1 v rr
            refine o v F' L H' ⟨x1.f, List.prefix_rfl⟩ (cutR x1 ok1) ?_
            have fresh : ∀ {c : Cell} {a : Addr}, c.belowB M.length = true → RepC K g R F' L' H' a c → (∀ (i : Nat) (c' : Cell), i < M.length → st1.M[i]? = some (some c') → L'[i]? ≠ some a) → v = .ref a → RepR0 K g R F' L (st1.M.take M.length) H' (.new c) v := fun {c a} hb rc n ev => by
              refine ⟨a, ev, rc.cut x1.l (by rw [il]; exact Cell.bel_of hb), fun i c' e' z => ?_⟩
              have hi : i < M.length := by have := (List.getElem?_eq_some_iff.mp e').1; simp at this; omega
              rw [List.getElem?_take_of_lt hi] at e'
              exact n i c' hi e' (x1.get z)
            cases r with
            | d x => cases er; exact rr
            | loc i =>
              obtain ⟨a, ha, q⟩ := rr
              simp only [retR] at er
              split at er
              · rename_i hi
                cases er
                obtain ⟨t, rfl⟩ := x1.l
                rw [List.getElem?_append_left (by omega)] at ha
                exact ⟨a, ha, q⟩
              · rename_i hi
                split at er
                · rename_i c hc
                  split at er
                  · rename_i hb
                    cases er
                    obtain ⟨a', ha', rc⟩ := ok1.rel.ce i c hc
                    rw [ha] at ha'; cases ha'
                    refine fresh hb rc (fun j c' hj ej z => ?_) q
                    have := ok1.rel.nd j i c' c a ej hc z ha
                    omega
                  · cases er
                · cases er
            | new c =>
              obtain ⟨a, q, rc, n⟩ := rr
              simp only [retR] at er
              split at er
              · rename_i hb
                cases er
                exact fresh hb rc (fun i c' _ e z => n i c' e z) q
              · cases er
            | ex c fs => cases er
end

/-- a def's function: the cells that were there hold no newer ones than before -/
def FnB (fs : Fn) : Prop := ∀ ws M o M', fs ws M = some (o, M') → M'.length = M.length ∧ ∀ (i : Nat) (c' : Cell), M'[i]? = some (some c') → ∃ c, M[i]? = some (some c) ∧ ∀ n, c.below n → c'.below n
theorem fnB_of {N : Nat} {body : Ev Fl} (h : Bel body) : FnB (fnOf N body) := fun ws M o M' e => by
  have key : ∀ o1 st1, body ⟨ws.map .w ++ List.replicate (N - ws.length) .no, M, M.length⟩ = some (o1, st1) → (st1.M.take M.length).length = M.length ∧ ∀ (i : Nat) (c' : Cell), (st1.M.take M.length)[i]? = some (some c') → ∃ c, M[i]? = some (some c) ∧ ∀ n, c.below n → c'.below n := fun o1 st1 e1 => by
    have le := h _ _ _ (Nat.le_refl _) e1
    have l2 := le.2.1
    simp only at l2
    refine ⟨by simp; omega, fun i c' e2 => ?_⟩
    have hi : i < M.length := by have := (List.getElem?_eq_some_iff.mp e2).1; simp at this; omega
    rw [List.getElem?_take_of_lt hi] at e2
    exact le.2.2 i c' hi e2
  unfold fnOf at e
  cases e1 : body ⟨ws.map .w ++ List.replicate (N - ws.length) .no, M, M.length⟩ with
  | none => rw [e1] at e; cases e
  | some p =>
    obtain ⟨o1, st1⟩ := p
    rw [e1] at e
    have k := key o1 st1 e1
    cases o1 with
    | exc x => cases e; exact k
    | ok fl =>
      cases fl with
      | nx => cases e; exact k
      | brk => cases e
      | ct => cases e
      | ret r =>
        dsimp only at e
        obtain ⟨r', _, e'⟩ := Option.map_eq_some_iff.mp e
        cases e'; exact k

/-! ### calls -/
section
variable {X : Cx} {G : Cl} {Wx : WX}
def eCallF (fs : Fn) (ws : List W) : Ev Res := fun st => match fs ws st.M with
  | none => none
  | some (.exc x, M) => some (.exc x, ⟨st.sl, M, st.b⟩)
  | some (.ok r, M) => some (.ok r, ⟨st.sl, M, st.b⟩)
def eCall (fs : Fn) (fa : Ev (List W)) : Ev Res := fa.bind (eCallF fs)
theorem bel_callF {fs : Fn} (h : FnB fs) (ws : List W) : Bel (eCallF fs ws) := fun st o st' hb e => by
  unfold eCallF at e
  cases e1 : fs ws st.M with
  | none => rw [e1] at e; cases e
  | some p =>
    obtain ⟨o1, M⟩ := p
    rw [e1] at e
    obtain ⟨k1, k2⟩ := h _ _ _ _ e1
    cases o1 <;> cases e <;> exact ⟨rfl, by simp only; omega, fun i c' _ q => k2 i c' q⟩
/-- the callee's outcome, as the caller sees it -/
theorem call_out {K : PySem.W.Frag} {R F H : Hp} {L : List Addr} {st : S} {σ : L2.St} {fs : Fn} {ws : List W} {P : Res → S → Hp → List Addr → Hp → Prop} {Q : VK} (ok : Ok K G R F L st σ H)
    (o : OutP K G Wx R F L σ P (eCallF fs ws st)) (hq : ∀ r st1 F1 L1 H1 v, Ext F F1 L L1 → Ok K G R F1 L1 st1 σ H1 → P r st1 F1 L1 H1 → RepR K G R F1 L1 st1.M H1 r v → Q v H1) :
    OutF K G.at_ R F L Q (WE Wx σ) (fs ws st.M) := by
  unfold eCallF at o
  have back : ∀ {M F' L' H'}, Ext F F' L L' → Rel K G.at_ R F' L' M H' → Ok K G R F' L' ⟨st.sl, M, st.b⟩ σ H' := fun x rel => ⟨rel, ok.len, fun i s e => (ok.sl i s e).ext x⟩
  cases e1 : fs ws st.M with
  | none => rw [e1] at o; exact o
  | some p =>
    obtain ⟨o1, M⟩ := p
    rw [e1] at o
    cases o1 with
    | exc x => exact fun F' L' H' dd vs x1 rel hd rf => o F' L' H' dd vs x1 (back x1 rel) hd rf
    | ok r =>
      intro v F' L' H' x1 rel rr
      refine hq r _ F' L' H' v x1 (back x1 rel) (o F' L' H' x1 (back x1 rel)) ?_
      cases r with
      | d y => exact rr
      | loc i => exact rr
      | new c => exact rr
      | ex c fs => exact rr.elim
end
end Pm

set_option maxHeartbeats 2000000
/-! Q4: calls -/
namespace Pm
open PySem PyProof.Rows L2

structure SK (X : Cx) (G : Cl) (Wx : WX) (es : List Keyword) (f : Ev (List W)) : Prop where
  pk : PK X es (tA X.K G Wx f)
  bel : Bel f
theorem PK_imp {X : Cx} {e : List Keyword} {t t' : TA} (h : PK X e t) (k : ∀ σ H Q, t' σ H Q → t σ H Q) : PK X e t' :=
  ⟨fun pos pins s σ H Q I hw => h.run pos pins s σ H Q I (k σ H Q hw)⟩
section
variable {X : Cx} {G : Cl} {Wx : WX}
theorem sk_nil : SK X G Wx [] eaNil := ⟨PK_imp pk_nil fun σ H Q ⟨R, F, L, st, ok, o⟩ => o F L H (.refl F L) ok [] .nil, .pure⟩
theorem sk_cons {e : Expr} {es : List Keyword} {f : Ev Res} {h : Ev W} {r : Ev (List W)} {nm : Option Str} {kpos : Pos} (hw : AsW f h) (he : SE X G Wx e f) (hr : SK X G Wx es r) : SK X G Wx (⟨nm, e, kpos⟩ :: es) (eaCons h r) :=
  ⟨PK_imp (pk_cons he.pe hr.pk) fun σ H Q ⟨R, F, L, st, ok, o⟩ => by
    refine tE_of ok (hw.out (OutP.bind (f := h) o fun w st1 F1 L1 H1 x1 ok1 o1 v rv => ?_))
    refine ⟨R, F1, L1, st1, ok1, OutP.bind (f := r) o1 fun ws st2 F2 L2 H2 x2 ok2 o2 vs rvs => ?_⟩
    exact o2 F2 L2 H2 (.refl _ _) ok2 (v :: vs) (.cons (rv.ext x2) rvs), (hw.bel he.bel).bind fun _ => hr.bel.bind fun _ => .pure⟩
end

/-! ### what is called, by values -/
abbrev TF := List V → List V → L2.St → Hp → VK → Prop
def CallV (X : Cx) (f : Value) (ks : List Str) (fin : TF) : Prop :=
  ∀ (pins : List (Addr × Obj)) (s : Shared) (σ : L2.St) (H : Hp) (us ws : List Value) (vs zs : List V) (Q : VK), Inv X pins σ H s → Vals vs us → Vals zs ws → fin vs zs σ H Q →
    wpAny (model X.prog X.w) X.A (call f us (ks.zip ws)) (EP X pins σ Q) X.xe s
def tArgs (t tk : TA) (fin : TF) : TE := fun σ H Q => t σ H fun vs H1 => tk σ H1 fun zs H2 => fin vs zs σ H2 Q
section
variable {X : Cx} {fin : TF} {f : Addr} {x m : Str} {p pos apos : Pos} {e o : Expr} {es : List Expr} {kws : List Keyword} {ks : List Str} {t tk : TA}
/-- name(e, .., k = v, ..) -/
theorem pv_call (c : CallV X (.ref f) ks fin) (hg : Gl X x) (hm : X.mg x = some (.ref f)) (hk : PySem.W.keepIn X.K (.ref f) = true) (ha : PA X (e :: es) t) (hkw : PK X kws tk)
    (hall : (backToKw pos (keywordEach kws X.env)).all (·.1.isSome) = true := by rfl) (hks : (backToKw pos (keywordEach kws X.env)).filterMap (·.1) = ks := by rfl) (hdb : (x == ("__debug__" : Str)) = false := by decide)
    (he : starEach (e :: es) X.env = (false, eval e X.env) :: starEach es X.env := by rfl) (hpl : ((backTo pos (starEach (e :: es) X.env)).any (·.1) || (backToKw pos (keywordEach kws X.env)).any (·.1.isNone)) = false := by rfl) :
    PE X (.Call (.Name x p) (e :: es) kws pos) (tArgs t tk fin) := by
  refine ⟨fun pins s σ H Q I h => ?_⟩
  refine wpAny_Call_Name_kw (ld_glob I hg hm ?_ hdb)
  refine PySem.W.callWith_KW (h₀ := X.base) I.ok.mod.kin hk hall (thn (ha.run pos pins s σ H _ I h) fun us s1 ⟨vs, H1, I1, r, q⟩ => ?_) hpl he
  refine thn (hkw.run pos pins s1 σ H1 _ I1 q) fun ws s2 ⟨zs, H2, I2, rz, q2⟩ => ⟨I2.kIn, ?_⟩
  rw [hks]
  exact c pins s2 σ H2 us ws vs zs Q I2 r rz q2
/-- name(k = v, ..), name() -/
theorem pv_call0 (c : CallV X (.ref f) ks fin) (hg : Gl X x) (hm : X.mg x = some (.ref f)) (hk : PySem.W.keepIn X.K (.ref f) = true) (hkw : PK X kws tk)
    (hall : (backToKw pos (keywordEach kws X.env)).all (·.1.isSome) = true := by rfl) (hks : (backToKw pos (keywordEach kws X.env)).filterMap (·.1) = ks := by rfl) (hdb : (x == ("__debug__" : Str)) = false := by decide)
    (hpl : ((backTo pos (starEach [] X.env)).any (·.1) || (backToKw pos (keywordEach kws X.env)).any (·.1.isNone)) = false := by rfl) :
    PE X (.Call (.Name x p) [] kws pos) (tArgs tNil tk fin) := by
  refine ⟨fun pins s σ H Q I h => ?_⟩
  refine wpAny_Call_Name_kw (ld_glob I hg hm ?_ hdb)
  refine PySem.W.callWith_KW0 (h₀ := X.base) I.ok.mod.kin hk hall ?_ hpl
  refine thn (hkw.run pos pins s σ H _ I h) fun ws s2 ⟨zs, H2, I2, rz, q2⟩ => ⟨I2.kIn, ?_⟩
  rw [hks]
  exact c pins s2 σ H2 [] ws [] zs Q I2 .nil rz q2
/-- o.m(..) of an instance: the object, then the arguments -/
def tMethA (C : Addr) (m : Str) (to t tk : TA) (fin : TF) : TE := fun σ H Q => to σ H fun xs H1 => ∃ a dx fs, xs = [.ref a] ∧ H1 a = some (.ins C dx fs) ∧ fs.lookup m = none ∧ t σ H1 fun vs H2 => tk σ H2 fun zs H3 => fin (.ref a :: vs) zs σ H3 Q
def t1 (to : TE) : TA := fun σ H Q => to σ H fun x H1 => Q [x] H1
theorem pv_meth {C : Addr} {to : TE} {pl : Sem Bool} (c : CallV X (.ref f) ks fin) (ho : PE X o to) (cl : Cls X.K C) (hm : Meth X.K C m f) (ha : PA X (e :: es) t) (hkw : PK X kws tk)
    (hall : (backToKw pos (keywordEach kws X.env)).all (·.1.isSome) = true := by rfl) (hks : (backToKw pos (keywordEach kws X.env)).filterMap (·.1) = ks := by rfl)
    (he : starEach (e :: es) X.env = (false, eval e X.env) :: starEach es X.env := by rfl) (hpl : ((backTo pos (starEach (e :: es) X.env)).any (·.1) || (backToKw pos (keywordEach kws X.env)).any (·.1.isNone)) = false := by rfl)
    (ht : eval (.Call (.Attribute o m apos) (e :: es) kws pos) X.env = (do
      let ov ← eval o X.env
      standAt apos.atName
      let (f, first) ← holding [ov] (getMethod ov m pl)
      callWith pos f first (backTo pos (starEach (e :: es) X.env)) (backToKw pos (keywordEach kws X.env))) := by rfl) :
    PE X (.Call (.Attribute o m apos) (e :: es) kws pos) (tMethA C m (t1 to) t tk fin) := by
  refine ⟨fun pins s σ H Q I h => ?_⟩
  refine PySem.W.methodCall_KW (pl := pl) (thn (ho.run pins s σ H _ I h) fun u s1 ⟨x, H1, I1, rx, a, dx, fs, ex, ea, l, q⟩ => ?_) ht
  cases ex
  obtain rfl : u = Value.ref a := rx
  refine getmeth_ok I1 ea cl hm l ?_
  refine PySem.W.callWith_KW (first := [.ref a]) (h₀ := X.base) I.ok.mod.kin hm.kp hall (thn (ha.run pos pins s1 σ H1 _ I1 q) fun us s2 ⟨vs, H2, I2, r, q2⟩ => ?_) hpl he
  refine thn (hkw.run pos pins s2 σ H2 _ I2 q2) fun ws s3 ⟨zs, H3, I3, rz, q3⟩ => ⟨I3.kIn, ?_⟩
  rw [hks]
  exact c pins s3 σ H3 (.ref a :: us) ws (.ref a :: vs) zs Q I3 (.cons rfl r) rz q3
theorem pv_meth0 {C : Addr} {to : TE} {pl : Sem Bool} (c : CallV X (.ref f) ks fin) (ho : PE X o to) (cl : Cls X.K C) (hm : Meth X.K C m f) (hkw : PK X kws tk)
    (hall : (backToKw pos (keywordEach kws X.env)).all (·.1.isSome) = true := by rfl) (hks : (backToKw pos (keywordEach kws X.env)).filterMap (·.1) = ks := by rfl)
    (hpl : ((backTo pos (starEach [] X.env)).any (·.1) || (backToKw pos (keywordEach kws X.env)).any (·.1.isNone)) = false := by rfl)
    (ht : eval (.Call (.Attribute o m apos) [] kws pos) X.env = (do
      let ov ← eval o X.env
      standAt apos.atName
      let (f, first) ← holding [ov] (getMethod ov m pl)
      callWith pos f first (backTo pos (starEach [] X.env)) (backToKw pos (keywordEach kws X.env))) := by rfl) :
    PE X (.Call (.Attribute o m apos) [] kws pos) (tMethA C m (t1 to) tNil tk fin) := by
  refine ⟨fun pins s σ H Q I h => ?_⟩
  refine PySem.W.methodCall_KW (pl := pl) (thn (ho.run pins s σ H _ I h) fun u s1 ⟨x, H1, I1, rx, a, dx, fs, ex, ea, l, q⟩ => ?_) ht
  cases ex
  obtain rfl : u = Value.ref a := rx
  refine getmeth_ok I1 ea cl hm l ?_
  refine PySem.W.callWith_KW0 (first := [.ref a]) (h₀ := X.base) I.ok.mod.kin hm.kp hall ?_ hpl
  refine thn (hkw.run pos pins s1 σ H1 _ I1 q) fun ws s3 ⟨zs, H3, I3, rz, q3⟩ => ⟨I3.kIn, ?_⟩
  rw [hks]
  exact c pins s3 σ H3 [.ref a] ws [.ref a] zs Q I3 (.cons rfl .nil) rz q3
end

/-! ### how a call's arguments come to the parameters -/
structure Bd (K : PySem.W.Frag) (g : Nat → Addr) (fd : FuncData) (ps : List Str) (n : Nat) (ks : List Str) (gW : List W → List W → List W) : Prop where
  ex : ∃ gv gV, KBn K fd ps n ks gv gV ∧ ∀ (F : Hp) (L : List Addr) (ws us : List W) (vs zs : List V), RepWs K g F L ws vs → RepWs K g F L us zs → RepWs K g F L (gW ws us) (gV vs zs)
/-- all parameters by position -/
theorem bd_all {K : PySem.W.Frag} {g : Nat → Addr} {fd : FuncData} {ps : List Str} (h : Binds K fd ps []) : Bd K g fd ps ps.length [] (fun ws _ => ws) :=
  ⟨fun us _ => us, fun vs _ => vs, ⟨fun s us ws X l1 l2 => by
    have := h s us X (by simpa using l1)
    have e : ([] : List Str).zip ws = [] := rfl
    rw [e]
    simpa using this, fun r _ => r⟩, fun _ _ _ _ _ _ r _ => r⟩
section
variable {X : Cx} {G : Cl} {Wx : WX} {k : Nat} {f : Addr} {fd : FuncData} {ps ks : List Str} {n : Nat} {gW : List W → List W → List W} {fs : Fn}
def finF (K : PySem.W.Frag) (G : Cl) (Wx : WX) (fs : Fn) (n m : Nat) (gW : List W → List W → List W) : TF := fun vs zs σ H Q => vs.length = n ∧ zs.length = m ∧ ∃ R F L M ws us, Rel K G.at_ R F L M H ∧ RepWs K G.at_ F L ws vs ∧ RepWs K G.at_ F L us zs ∧
  OutF K G.at_ R F L Q (WE Wx σ) (fs (gW ws us) M)
theorem cv_fn {z : Bool} (F : FnZ z X.prog X.w X.K X.mg X.base (L2.CX X.prog X.w) k f fd ps (spF X.K G.at_ ps.length fs)) (hr : Room k X.A) (hz : z = true → X.A.guards = some []) (tk : Takes X Wx) (b : Bd X.K G.at_ fd ps n ks gW) (hl : ∀ ws us : List W, ws.length = n → us.length = ks.length → (gW ws us).length = ps.length := by intro _ _ h1 h2; simp_all) :
    CallV X (.ref f) ks (finF X.K G Wx fs n ks.length gW) := by
  intro pins s σ H us ws vs zs Q I r rz ⟨l1, l2, R, F0, L, M, xs, ys, rel, rx, ry, o⟩
  obtain ⟨gv, gV, kb, hw⟩ := b.ex
  have r2 := kb.rel r rz
  have rw2 := hw F0 L xs ys vs zs rx ry
  have hlen : (gV vs zs).length = ps.length := by rw [← rw2.length]; exact hl xs ys (rx.length.trans l1) (ry.length.trans l2)
  refine wpAny_call (codeAny_mono (F.go X.A X.stack s H ⟨us, ks.zip ws⟩ (gv us ws) (gV vs zs) Q (WE Wx σ) hr hz I.env0 (kb.to s us ws I.kIn (r.length.symm.trans l1) (rz.length.symm.trans l2)) r2 ⟨hlen, R, F0, L, M, gW xs ys, rel, rw2, o⟩) fun r s' hq => ?_)
  cases r with
  | error e => exact passAt tk σ pins H s e s' I hq
  | ok fl =>
    cases fl with
    | ret u => exact I.after hq
    | next => exact False.elim hq
    | brk => exact False.elim hq
    | cont => exact False.elim hq
def eCallK (fs : Fn) (gW : List W → List W → List W) (n m : Nat) (fa fk : Ev (List W)) : Ev Res := fa.bind fun ws => fk.bind fun us => if ws.length = n ∧ us.length = m then eCallF fs (gW ws us) else Ev.fail
theorem bel_callK {fa fk : Ev (List W)} {m : Nat} (fb : FnB fs) (ba : Bel fa) (bk : Bel fk) : Bel (eCallK fs gW n m fa fk) := ba.bind fun ws => bk.bind fun us => by
  by_cases h : ws.length = n ∧ us.length = m
  · rw [if_pos h]; exact bel_callF fb _
  · rw [if_neg h]; exact .fail'
/-- the arguments, then the call -/
theorem args_of {fa fk : Ev (List W)} {m : Nat} {R F0 : Hp} {L : List Addr} {st : S} {σ : L2.St} {H : Hp} {Q : VK} (ok : Ok X.K G R F0 L st σ H) (o : OutE X.K G Wx R F0 L σ Q (eCallK fs gW n m fa fk st)) :
    tArgs (tA X.K G Wx fa) (tA X.K G Wx fk) (finF X.K G Wx fs n m gW) σ H Q := by
  refine ⟨R, F0, L, st, ok, OutP.bind (f := fa) o fun ws st1 F1 L1 H1 x1 ok1 o1 vs rv => ?_⟩
  refine ⟨R, F1, L1, st1, ok1, OutP.bind (f := fk) o1 fun us st2 F2 L2 H2 x2 ok2 o2 zs rz => ?_⟩
  split at o2
  · rename_i h
    exact ⟨rv.length.symm.trans h.1, rz.length.symm.trans h.2, R, F2, L2, st2.M, ws, us, ok2.rel, rv.ext x2, rz, call_out ok2 o2 fun r st3 F3 L3 H3 v x3 ok3 q rr => q v rr⟩
  · exact o2.elim
variable {x m : Str} {p pos apos : Pos} {e o : Expr} {es : List Expr} {kws : List Keyword} {fa fk : Ev (List W)}
theorem se_call (fb : FnB fs) (c : CallV X (.ref f) ks (finF X.K G Wx fs n ks.length gW)) (hm : X.mg x = some (.ref f)) (hk : PySem.W.keepIn X.K (.ref f) = true) (ha : SA X G Wx (e :: es) fa) (hkw : SK X G Wx kws fk) (hg : Gl X x := by rfl)
    (hall : (backToKw pos (keywordEach kws X.env)).all (·.1.isSome) = true := by rfl) (hks : (backToKw pos (keywordEach kws X.env)).filterMap (·.1) = ks := by rfl) (hdb : (x == ("__debug__" : Str)) = false := by decide)
    (he : starEach (e :: es) X.env = (false, eval e X.env) :: starEach es X.env := by rfl) (hpl : ((backTo pos (starEach (e :: es) X.env)).any (·.1) || (backToKw pos (keywordEach kws X.env)).any (·.1.isNone)) = false := by rfl) :
    SE X G Wx (.Call (.Name x p) (e :: es) kws pos) (eCallK fs gW n ks.length fa fk) :=
  ⟨PE_imp (pv_call c hg hm hk ha.pa hkw.pk hall hks hdb he hpl) fun σ H Q ⟨R, F, L, st, ok, o⟩ => args_of ok o, bel_callK fb ha.bel hkw.bel⟩
theorem se_call0 (fb : FnB fs) (c : CallV X (.ref f) ks (finF X.K G Wx fs n ks.length gW)) (hm : X.mg x = some (.ref f)) (hk : PySem.W.keepIn X.K (.ref f) = true) (hkw : SK X G Wx kws fk) (hg : Gl X x := by rfl)
    (hall : (backToKw pos (keywordEach kws X.env)).all (·.1.isSome) = true := by rfl) (hks : (backToKw pos (keywordEach kws X.env)).filterMap (·.1) = ks := by rfl) (hdb : (x == ("__debug__" : Str)) = false := by decide)
    (hpl : ((backTo pos (starEach [] X.env)).any (·.1) || (backToKw pos (keywordEach kws X.env)).any (·.1.isNone)) = false := by rfl) :
    SE X G Wx (.Call (.Name x p) [] kws pos) (eCallK fs gW n ks.length eaNil fk) :=
  ⟨PE_imp (pv_call0 c hg hm hk hkw.pk hall hks hdb hpl) fun σ H Q ⟨R, F, L, st, ok, o⟩ => by
    obtain ⟨R1, F1, L1, st1, ok1, o1⟩ := args_of ok o
    exact o1 F1 L1 H (.refl _ _) ok1 [] .nil, bel_callK fb .pure hkw.bel⟩

/-! ### methods of an instance: the object is data or a cell -/
def isIns (M : List (Option Cell)) (c : Nat) (m : Str) : W → Prop
  | .d (.obj c' fs) => c' = c ∧ fs.lookup m = none
  | .loc i => ∃ fs, M[i]? = some (some (.ins c fs)) ∧ fs.lookup m = none
  | _ => False
def isInsB (M : List (Option Cell)) (c : Nat) (m : Str) : W → Bool
  | .d (.obj c' fs) => decide (c' = c) && (fs.lookup m).isNone
  | .loc i => match M[i]? with
    | some (some (.ins c' fs)) => decide (c' = c) && (fs.lookup m).isNone
    | _ => false
  | _ => false
theorem isIns_ok {K : PySem.W.Frag} {g : Nat → Addr} {R F H : Hp} {L : List Addr} {M : List (Option Cell)} {w : W} {v : V} {c : Nat} {m : Str} (rel : Rel K g R F L M H) (r : RepW K g F L w v) (h : isInsB M c m w = true) :
    ∃ a dx fs, v = .ref a ∧ H a = some (.ins (g c) dx fs) ∧ fs.lookup m = none := by
  cases w with
  | d x =>
    cases x with
    | obj c' fs =>
      simp only [isInsB, Bool.and_eq_true, decide_eq_true_eq, Option.isNone_iff_eq_none] at h
      obtain ⟨rfl, h2⟩ := h
      cases r with
      | obj e1 e2 rf => exact ⟨_, _, _, rfl, rel.fh _ _ e1, rf.lookup_none h2⟩
    | _ => cases h
  | loc i =>
    obtain ⟨a, ha, rfl⟩ := r
    simp only [isInsB] at h
    split at h
    · rename_i c' fs hc
      simp only [Bool.and_eq_true, decide_eq_true_eq, Option.isNone_iff_eq_none] at h
      obtain ⟨rfl, h2⟩ := h
      obtain ⟨b, hb, _, _, dx, vs, e, eo, _, _, rf⟩ := rel.ce i _ hc
      rw [ha] at hb; cases hb
      exact ⟨_, _, _, rfl, e, rf.lookup_none h2⟩
    · cases h
def eMeth (fs : Fn) (gW : List W → List W → List W) (c : Nat) (m : Str) (n k : Nat) (fo : Ev W) (fa fk : Ev (List W)) : Ev Res := fo.bind fun w => fun st => if isInsB st.M c m w then
  (fa.bind fun ws => fk.bind fun us => if (w :: ws).length = n ∧ us.length = k then eCallF fs (gW (w :: ws) us) else Ev.fail) st else none
theorem bel_meth {fo : Ev W} {c : Nat} {j : Nat} (fb : FnB fs) (bo : Bel fo) (ba : Bel fa) (bk : Bel fk) : Bel (eMeth fs gW c m n j fo fa fk) := bo.bind fun w => fun st o st' hb e => by
  split at e
  · refine (ba.bind fun ws => bk.bind fun us => ?_) st o st' hb e
    by_cases h : (w :: ws).length = n ∧ us.length = j
    · rw [if_pos h]; exact bel_callF fb _
    · rw [if_neg h]; exact .fail'
  · cases e
theorem meth_of {fo : Ev Res} {ho : Ev W} {c j : Nat} (hw : AsW fo ho) {R F0 : Hp} {L : List Addr} {st : S} {σ : L2.St} {H : Hp} {Q : VK} (ok : Ok X.K G R F0 L st σ H) (q : OutE X.K G Wx R F0 L σ Q (eMeth fs gW c m n j ho fa fk st)) :
    tMethA (G.at_ c) m (t1 (tE X.K G Wx fo)) (tA X.K G Wx fa) (tA X.K G Wx fk) (finF X.K G Wx fs n j gW) σ H Q := by
  refine tE_of ok (hw.out (OutP.bind (f := ho) q fun w st1 F1 L1 H1 x1 ok1 o1 v rw' => ?_))
  split at o1
  · rename_i hi
    obtain ⟨a, dx, fl, rfl, ea, l⟩ := isIns_ok ok1.rel rw' hi
    refine ⟨a, dx, fl, rfl, ea, l, R, F1, L1, st1, ok1, OutP.bind (f := fa) o1 fun ws st2 F2 L2 H2 x2 ok2 o2 vs rv => ?_⟩
    refine ⟨R, F2, L2, st2, ok2, OutP.bind (f := fk) o2 fun us st3 F3 L3 H3 x3 ok3 o3 zs rz => ?_⟩
    split at o3
    · rename_i h
      have rwl : RepWs X.K G.at_ F3 L3 (w :: ws) (.ref a :: vs) := .cons ((rw'.ext x2).ext x3) (rv.ext x3)
      exact ⟨rwl.length.symm.trans h.1, rz.length.symm.trans h.2, R, F3, L3, st3.M, w :: ws, us, ok3.rel, rwl, rz, call_out ok3 o3 fun r st4 F4 L4 H4 v x4 ok4 q rr => q v rr⟩
    · exact o3.elim
  · exact o1.elim
theorem se_meth {pl : Sem Bool} {fo : Ev Res} {ho : Ev W} {c : Nat} (fb : FnB fs) (cv : CallV X (.ref f) ks (finF X.K G Wx fs n ks.length gW)) (cl : Cls X.K (G.at_ c)) (hm : Meth X.K (G.at_ c) m f) (hw : AsW fo ho) (hso : SE X G Wx o fo) (ha : SA X G Wx (e :: es) fa) (hkw : SK X G Wx kws fk)
    (hall : (backToKw pos (keywordEach kws X.env)).all (·.1.isSome) = true := by rfl) (hks : (backToKw pos (keywordEach kws X.env)).filterMap (·.1) = ks := by rfl)
    (he : starEach (e :: es) X.env = (false, eval e X.env) :: starEach es X.env := by rfl) (hpl : ((backTo pos (starEach (e :: es) X.env)).any (·.1) || (backToKw pos (keywordEach kws X.env)).any (·.1.isNone)) = false := by rfl)
    (ht : eval (.Call (.Attribute o m apos) (e :: es) kws pos) X.env = (do
      let ov ← eval o X.env
      standAt apos.atName
      let (f, first) ← holding [ov] (getMethod ov m pl)
      callWith pos f first (backTo pos (starEach (e :: es) X.env)) (backToKw pos (keywordEach kws X.env))) := by rfl) :
    SE X G Wx (.Call (.Attribute o m apos) (e :: es) kws pos) (eMeth fs gW c m n ks.length ho fa fk) :=
  ⟨PE_imp (pv_meth cv hso.pe cl hm ha.pa hkw.pk hall hks he hpl ht) fun σ H Q ⟨R, F, L, st, ok, q⟩ => meth_of hw ok q, bel_meth fb (hw.bel hso.bel) ha.bel hkw.bel⟩
theorem se_meth0 {pl : Sem Bool} {fo : Ev Res} {ho : Ev W} {c : Nat} (fb : FnB fs) (cv : CallV X (.ref f) ks (finF X.K G Wx fs n ks.length gW)) (cl : Cls X.K (G.at_ c)) (hm : Meth X.K (G.at_ c) m f) (hw : AsW fo ho) (hso : SE X G Wx o fo) (hkw : SK X G Wx kws fk)
    (hall : (backToKw pos (keywordEach kws X.env)).all (·.1.isSome) = true := by rfl) (hks : (backToKw pos (keywordEach kws X.env)).filterMap (·.1) = ks := by rfl)
    (hpl : ((backTo pos (starEach [] X.env)).any (·.1) || (backToKw pos (keywordEach kws X.env)).any (·.1.isNone)) = false := by rfl)
    (ht : eval (.Call (.Attribute o m apos) [] kws pos) X.env = (do
      let ov ← eval o X.env
      standAt apos.atName
      let (f, first) ← holding [ov] (getMethod ov m pl)
      callWith pos f first (backTo pos (starEach [] X.env)) (backToKw pos (keywordEach kws X.env))) := by rfl) :
    SE X G Wx (.Call (.Attribute o m apos) [] kws pos) (eMeth fs gW c m n ks.length ho eaNil fk) :=
  ⟨PE_imp (pv_meth0 cv hso.pe cl hm hkw.pk hall hks hpl ht) fun σ H Q ⟨R, F, L, st, ok, q⟩ => by
    obtain ⟨R1, F1, L1, st1, ok1, o1⟩ := meth_of (Wx := Wx) (fa := eaNil) hw ok q
    refine ⟨R1, F1, L1, st1, ok1, OutP.imp o1 fun r st2 F2 L2 H2 x2 ok2 p v rr => ?_⟩
    obtain ⟨a, dx, fl, e1, ea, l, R3, F3, L3, st3, ok3, o3⟩ := p v rr
    exact ⟨a, dx, fl, e1, ea, l, o3 F3 L3 _ (.refl _ _) ok3 [] .nil⟩, bel_meth fb (hw.bel hso.bel) .pure hkw.bel⟩
end
end Pm

set_option maxHeartbeats 2000000
/-! Q5: instances made, attributes, items, methods of lists -/
namespace Pm
open PySem PyProof.Rows L2

/-! ### a cell is changed -/
section
variable {K : PySem.W.Frag} {g : Nat → Addr} {G : Cl} {R F : Hp} {L : List Addr} {M : List (Option Cell)} {H : Hp}
theorem RepC.other {a b : Addr} {c : Cell} {o : HO} (r : RepC K g R F L H b c) (hb : b ≠ a) (hn : ∀ y, H a ≠ some (.own y)) : RepC K g R F L (upd H a o) b c := by
  cases c with
  | lst ws => obtain ⟨f0, r0, vs, e, q⟩ := r; exact ⟨f0, r0, vs, by rw [upd_ne hb]; exact e, q⟩
  | ins c fs =>
    obtain ⟨f0, r0, dx, vs, e, eo, f1, r1, q⟩ := r
    exact ⟨f0, r0, dx, vs, by rw [upd_ne hb]; exact e, by rw [upd_ne (show dx ≠ a from fun z => hn b (by rw [← z]; exact eo))]; exact eo, f1, r1, q⟩
theorem Rel.setc {i : Nat} {a : Addr} {c c' : Cell} {o : HO} (rel : Rel K g R F L M H) (hc : M[i]? = some (some c)) (ha : L[i]? = some a) (r : RepC K g R F L (upd H a o) a c') : Rel K g R F L (M.set i (some c')) (upd H a o) := by
  obtain ⟨b, hb, rc⟩ := rel.ce i c hc
  rw [ha] at hb; cases hb
  have hi : i < M.length := (List.getElem?_eq_some_iff.mp hc).1
  have back : ∀ (j : Nat) (d : Cell), (M.set i (some c'))[j]? = some (some d) → ∃ d0, M[j]? = some (some d0) ∧ (j ≠ i → d0 = d) ∧ (j = i → d = c') := fun j d e => by
    by_cases h : i = j
    · subst h
      rw [List.getElem?_set_self hi] at e
      exact ⟨c, hc, fun z => absurd rfl z, fun _ => (Option.some.inj (Option.some.inj e)).symm⟩
    · rw [List.getElem?_set_ne h] at e
      exact ⟨d, e, fun _ => rfl, fun z => absurd z.symm h⟩
  refine ⟨fun b o' e => ?_, fun b o' e => ?_, rel.fr, by simpa using rel.il, fun j d e => ?_, fun j k d1 d2 b e1 e2 => ?_⟩
  · rw [upd_ne fun z => by subst z; rw [rc.fNone] at e; cases e]; exact rel.fh b o' e
  · rw [upd_ne fun z => by subst z; rw [rc.rNone] at e; cases e]; exact rel.rh b o' e
  · obtain ⟨d0, e0, h1, h2⟩ := back j d e
    by_cases h : j = i
    · rw [h2 h, h]; exact ⟨a, ha, r⟩
    · obtain ⟨b, hb, rb⟩ := rel.ce j d0 e0
      have hba : b ≠ a := fun z => h (rel.nd j i d0 c a e0 hc (z ▸ hb) ha)
      rw [← h1 h]
      exact ⟨b, hb, rb.other hba fun y => rc.noOwn⟩
  · obtain ⟨x1, y1, _⟩ := back j d1 e1
    obtain ⟨x2, y2, _⟩ := back k d2 e2
    exact rel.nd j k x1 x2 b y1 y2
theorem Ok.setc {st : S} {σ : L2.St} {i : Nat} {a : Addr} {c c' : Cell} {o : HO} (ok : Ok K G R F L st σ H) (hc : st.M[i]? = some (some c)) (ha : L[i]? = some a) (r : RepC K G.at_ R F L (upd H a o) a c') :
    Ok K G R F L ⟨st.sl, st.M.set i (some c'), st.b⟩ σ (upd H a o) := ⟨ok.rel.setc hc ha r, ok.len, ok.sl⟩
/-- may w be put into the cell i: data may, a cell only into one of the def's own -/
def mayPut (st : S) (i : Nat) : W → Bool
  | .d _ => true
  | .loc _ => decide (st.b ≤ i)
theorem Le.setc {st : S} {i : Nat} {c c' : Cell} (hc : st.M[i]? = some (some c)) (h : i < st.b → ∀ n, c.below n → c'.below n) : Le st ⟨st.sl, st.M.set i (some c'), st.b⟩ :=
  ⟨rfl, by simp, fun j d hj e => by
    by_cases z : i = j
    · subst z
      simp only at e
      rw [List.getElem?_set_self (List.getElem?_eq_some_iff.mp hc).1] at e
      cases e
      exact ⟨c, hc, h hj⟩
    · simp only at e
      rw [List.getElem?_set_ne z] at e
      exact ⟨d, e, fun _ q => q⟩⟩
theorem mayPut_below {st : S} {i n : Nat} {w : W} (h : mayPut st i w = true) (hi : i < st.b) : w.below n := by
  cases w with
  | d _ => trivial
  | loc j =>
    have : st.b ≤ i := of_decide_eq_true h
    omega
end

/-! ### an instance is made -/
def mkF (c : Nat) (fs : Fn) (args : W → List W) : Fn := fun _ M => match fs (args (.loc M.length)) (M ++ [some (.ins c [])]) with
  | none => none
  | some (.exc x, M') => some (.exc x, M'.take M.length)
  | some (.ok (.d .non), M') => match M'[M.length]? with
    | some (some c') => if c'.belowB M.length then some (.ok (.new c'), M'.take M.length) else none
    | _ => none
  | _ => none
theorem take_old {M M' : List (Option Cell)} {c : Cell} (h : M'.length = (M ++ [some c]).length ∧ ∀ (i : Nat) (c' : Cell), M'[i]? = some (some c') → ∃ c0, (M ++ [some c])[i]? = some (some c0) ∧ ∀ n, c0.below n → c'.below n) :
    (M'.take M.length).length = M.length ∧ ∀ (i : Nat) (c' : Cell), (M'.take M.length)[i]? = some (some c') → ∃ c0, M[i]? = some (some c0) ∧ ∀ n, c0.below n → c'.below n := by
  obtain ⟨h1, h2⟩ := h
  simp only [List.length_append, List.length_singleton] at h1
  refine ⟨by simp; omega, fun i c' e => ?_⟩
  have hi : i < M.length := by have := (List.getElem?_eq_some_iff.mp e).1; simp at this; omega
  rw [List.getElem?_take_of_lt hi] at e
  obtain ⟨c0, e0, q⟩ := h2 i c' e
  rw [List.getElem?_append_left hi] at e0
  exact ⟨c0, e0, q⟩
theorem fnB_mk {c : Nat} {fs : Fn} {args : W → List W} (h : FnB fs) : FnB (mkF c fs args) := fun ws M o M' e => by
  unfold mkF at e
  cases e1 : fs (args (.loc M.length)) (M ++ [some (.ins c [])]) with
  | none => rw [e1] at e; cases e
  | some p =>
    obtain ⟨o1, M1⟩ := p
    rw [e1] at e
    have k := take_old (h _ _ _ _ e1)
    cases o1 with
    | exc x => cases e; exact k
    | ok r =>
      cases r with
      | d y =>
        cases y <;> simp only at e
        case non =>
          split at e
          · split at e
            · cases e; exact k
            · cases e
          · cases e
        all_goals cases e
      | _ => cases e
section
variable {K : PySem.W.Frag} {g : Nat → Addr} {G : Cl} {R F : Hp} {L : List Addr} {M : List (Option Cell)} {H : Hp}
theorem Rel.newIns {x dx : Addr} (c : Nat) (rel : Rel K g R F L M H) (hx : H x = none) (hd : H dx = none) (ne : dx ≠ x) :
    Rel K g R F L M (upd (upd H dx (.own x)) x (.ins (g c) dx [])) ∧ RepC K g R F L (upd (upd H dx (.own x)) x (.ins (g c) dx [])) x (.ins c []) ∧ ∀ (i : Nat) (c' : Cell), M[i]? = some (some c') → L[i]? ≠ some x := by
  have hx' : upd H dx (.own x) x = none := by rw [upd_ne ne.symm]; exact hx
  have s1 : Sub H (upd (upd H dx (.own x)) x (.ins (g c) dx [])) := (Sub.new hd).trans (Sub.new hx')
  refine ⟨rel.grow (.refl F) (rel.fh.trans s1) s1 fun _ _ _ q => q, ⟨rel.fh.none hx, rel.rh.none hx, dx, [], upd_same, by rw [upd_ne ne, upd_same], rel.fh.none hd, rel.rh.none hd, .nil⟩, fun i c' e z => ?_⟩
  obtain ⟨o, h⟩ := rel.live e z
  rw [hx] at h; cases h
end
section
variable {X : Cx} {G : Cl} {Wx : WX} {k c : Nat} {f : Addr} {fd : FuncData} {ps ks : List Str} {n : Nat} {gW : List W → List W → List W} {fs : Fn}
def finM (K : PySem.W.Frag) (G : Cl) (Wx : WX) (c : Nat) (fs : Fn) (n m : Nat) (gW : List W → List W → List W) : TF := fun vs zs σ H Q => vs.length + 1 = n ∧ zs.length = m ∧ ∃ R F L M ws us, Rel K G.at_ R F L M H ∧ RepWs K G.at_ F L ws vs ∧ RepWs K G.at_ F L us zs ∧
  OutF K G.at_ R F L Q (WE Wx σ) (mkF c fs (fun s => gW (s :: ws) us) [] M)
theorem make_guards {A : Around} {C : Addr} {us : List Value} {kw : List (Str × Value)} : (A.under (.builtin "type.__call__" ⟨.ref C :: us, kw⟩)).guards = A.guards := by
  cases h : A.guards <;> simp [Around.under, h, pushGuards, Code.guards, Code.isGuard, guardIds]
theorem cv_make {z : Bool} (Mk' : Mk X.K (G.at_ c) f) (F : FnZ z X.prog X.w X.K X.mg X.base (L2.CX X.prog X.w) k f fd ps (spF X.K G.at_ ps.length fs)) (fb : FnB fs) (hr : Room (k + 1) X.A) (hz : z = true → X.A.guards = some []) (tk : Takes X Wx) (b : Bd X.K G.at_ fd ps n ks gW)
    (hl : ∀ ws us : List W, ws.length = n → us.length = ks.length → (gW ws us).length = ps.length := by intro _ _ h1 h2; simp_all) : CallV X (.ref (G.at_ c)) ks (finM X.K G Wx c fs n ks.length gW) := by
  intro pins s σ H us ws vs zs Q I r rz ⟨l1, l2, R, F0, L, M, xs, ys, rel, rx, ry, o⟩
  obtain ⟨gv, gV, kb, hw⟩ := b.ex
  have hn1 : H (s.heap.objs.size + 1) = none := I.hok.fresh (Nat.le_succ _)
  have hn0 : H s.heap.objs.size = none := I.hok.fresh (Nat.le_refl _)
  have hne : s.heap.objs.size ≠ s.heap.objs.size + 1 := Nat.ne_of_lt (Nat.lt_succ_self _)
  obtain ⟨rel1, rc1, nc1⟩ := rel.newIns c hn1 hn0 hne
  obtain ⟨x1, rel2, la⟩ := rel1.alloc rc1 nc1
  have I2 := Inv.made (C := G.at_ c) I
  have r1 : Vals (V.ref (s.heap.objs.size + 1) :: vs) (Value.ref (s.heap.objs.size + 1) :: us) := .cons rfl r
  have r2 := kb.rel r1 rz
  have rw1 : RepWs X.K G.at_ F0 (L ++ [s.heap.objs.size + 1]) (.loc M.length :: xs) (V.ref (s.heap.objs.size + 1) :: vs) := .cons ⟨_, la, rfl⟩ (rx.ext x1)
  have rw2 := hw F0 _ (.loc M.length :: xs) ys _ zs rw1 (ry.ext x1)
  have hlen : (gV (V.ref (s.heap.objs.size + 1) :: vs) zs).length = ps.length := by rw [← rw2.length]; exact hl _ ys (rw1.length.trans (by simpa using l1)) (ry.length.trans l2)
  have out : OutF X.K G.at_ R F0 (L ++ [s.heap.objs.size + 1]) (fun v H2 => v = .non ∧ Q (.ref (s.heap.objs.size + 1)) H2) (WE Wx σ) (fs (gW (.loc M.length :: xs) ys) (M ++ [some (.ins c [])])) := by
    unfold mkF at o
    have il := rel.il
    cases e1 : fs (gW (.loc M.length :: xs) ys) (M ++ [some (.ins c [])]) with
    | none => rw [e1] at o; exact o
    | some p =>
      obtain ⟨o1, M1⟩ := p
      rw [e1] at o
      obtain ⟨k1, k2⟩ := fb _ _ _ _ e1
      simp only [List.length_append, List.length_singleton] at k1
      have cutR : ∀ {F' L' H'}, Ext F0 F' (L ++ [s.heap.objs.size + 1]) L' → Rel X.K G.at_ R F' L' M1 H' → Ext F0 F' L L ∧ Rel X.K G.at_ R F' L (M1.take M.length) H' := fun {F' L' H'} x2 rel' => by
        refine ⟨.frz x2.f, ?_⟩
        rw [← il]
        refine rel'.cut (x1.l.trans x2.l) (fun i c' hi e => ?_) (by omega)
        obtain ⟨c0, e0, q0⟩ := k2 i c' e
        rw [List.getElem?_append_left (by omega)] at e0
        obtain ⟨a, ha, rc⟩ := rel.ce i c0 e0
        exact q0 _ rc.below
      cases o1 with
      | exc x => exact fun F' L' H' dd vs x2 rel' hd rf => let ⟨y1, y2⟩ := cutR x2 rel'; o F' L H' dd vs y1 y2 hd rf
      | ok r =>
        cases r with
        | d y =>
          cases y <;> simp only at o
          case non =>
            intro v F' L' H' x2 rel' rr
            cases rr
            refine ⟨rfl, ?_⟩
            split at o
            · rename_i c' ec
              split at o
              · rename_i hb
                obtain ⟨y1, y2⟩ := cutR x2 rel'
                obtain ⟨a, ha, rc⟩ := rel'.ce M.length c' ec
                have ha' : a = s.heap.objs.size + 1 := by
                  have := x2.get la
                  rw [ha] at this; exact Option.some.inj this
                subst ha'
                refine o _ F' L H' y1 y2 ⟨_, rfl, rc.cut (x1.l.trans x2.l) (by rw [il]; exact Cell.bel_of hb), fun i d e z => ?_⟩
                have hi : i < M.length := by have := (List.getElem?_eq_some_iff.mp e).1; simp at this; omega
                rw [List.getElem?_take_of_lt hi] at e
                have z' := x2.get (x1.get z)
                have := rel'.nd i M.length d c' _ e ec z' (x2.get la)
                omega
              · exact o.elim
            · exact o.elim
          all_goals exact o.elim
        | _ => exact o.elim
  have n1 : (Value.ref (s.heap.objs.size + 1) :: us).length = n := by rw [List.length_cons, ← r.length]; exact l1
  refine wpAny_call (make_map (f := f) I.kIn Mk'.makes Mk'.init (beq_iff_eq.mp Mk'.fn) (codeAny_mono (F.go _ X.stack _ _ ⟨Value.ref (s.heap.objs.size + 1) :: us, ks.zip ws⟩ (gv (Value.ref (s.heap.objs.size + 1) :: us) ws) _ _ (WE Wx σ) (hr.make _ us (ks.zip ws)) (fun h => make_guards.trans (hz h))
    (I2.env0.make _ us (ks.zip ws)) (kb.to _ _ ws I2.kIn n1 (rz.length.symm.trans l2)) r2 ⟨hlen, R, F0, _, _, _, rel2, rw2, out⟩) fun r s' hq' => ?_))
  cases r with
  | error e => exact passAt tk σ pins _ _ e s' I2 hq'
  | ok fl =>
    cases fl with
    | ret u =>
      obtain ⟨v, H', I3, rv, ev, q3⟩ := I2.after hq'
      subst ev
      exact ⟨rv, ⟨V.ref (s.heap.objs.size + 1), H', I3, rfl, q3⟩⟩
    | next => exact False.elim hq'
    | brk => exact False.elim hq'
    | cont => exact False.elim hq'
def eMake (c : Nat) (fs : Fn) (gW : List W → List W → List W) (n m : Nat) (fa fk : Ev (List W)) : Ev Res := fa.bind fun ws => fk.bind fun us => if ws.length + 1 = n ∧ us.length = m then eCallF (mkF c fs (fun s => gW (s :: ws) us)) [] else Ev.fail
theorem bel_make {fa fk : Ev (List W)} {m : Nat} (fb : FnB fs) (ba : Bel fa) (bk : Bel fk) : Bel (eMake c fs gW n m fa fk) := ba.bind fun ws => bk.bind fun us => by
  by_cases h : ws.length + 1 = n ∧ us.length = m
  · rw [if_pos h]; exact bel_callF (fnB_mk fb) _
  · rw [if_neg h]; exact .fail'
theorem make_of {fa fk : Ev (List W)} {m : Nat} {R F0 : Hp} {L : List Addr} {st : S} {σ : L2.St} {H : Hp} {Q : VK} (ok : Ok X.K G R F0 L st σ H) (o : OutE X.K G Wx R F0 L σ Q (eMake c fs gW n m fa fk st)) :
    tArgs (tA X.K G Wx fa) (tA X.K G Wx fk) (finM X.K G Wx c fs n m gW) σ H Q := by
  refine ⟨R, F0, L, st, ok, OutP.bind (f := fa) o fun ws st1 F1 L1 H1 x1 ok1 o1 vs rv => ?_⟩
  refine ⟨R, F1, L1, st1, ok1, OutP.bind (f := fk) o1 fun us st2 F2 L2 H2 x2 ok2 o2 zs rz => ?_⟩
  split at o2
  · rename_i h
    exact ⟨by rw [← rv.length]; exact h.1, rz.length.symm.trans h.2, R, F2, L2, st2.M, ws, us, ok2.rel, rv.ext x2, rz, call_out ok2 o2 fun r st3 F3 L3 H3 v x3 ok3 q rr => q v rr⟩
  · exact o2.elim
variable {x m : Str} {p pos apos : Pos} {e o : Expr} {es : List Expr} {kws : List Keyword} {fa fk : Ev (List W)}
theorem se_make (fb : FnB fs) (cv : CallV X (.ref (G.at_ c)) ks (finM X.K G Wx c fs n ks.length gW)) (hm : X.mg x = some (.ref (G.at_ c))) (hk : PySem.W.keepIn X.K (.ref (G.at_ c)) = true) (ha : SA X G Wx (e :: es) fa) (hkw : SK X G Wx kws fk) (hg : Gl X x := by rfl)
    (hall : (backToKw pos (keywordEach kws X.env)).all (·.1.isSome) = true := by rfl) (hks : (backToKw pos (keywordEach kws X.env)).filterMap (·.1) = ks := by rfl) (hdb : (x == ("__debug__" : Str)) = false := by decide)
    (he : starEach (e :: es) X.env = (false, eval e X.env) :: starEach es X.env := by rfl) (hpl : ((backTo pos (starEach (e :: es) X.env)).any (·.1) || (backToKw pos (keywordEach kws X.env)).any (·.1.isNone)) = false := by rfl) :
    SE X G Wx (.Call (.Name x p) (e :: es) kws pos) (eMake c fs gW n ks.length fa fk) :=
  ⟨PE_imp (pv_call cv hg hm hk ha.pa hkw.pk hall hks hdb he hpl) fun σ H Q ⟨R, F, L, st, ok, o⟩ => make_of ok o, bel_make fb ha.bel hkw.bel⟩
theorem se_make0 (fb : FnB fs) (cv : CallV X (.ref (G.at_ c)) ks (finM X.K G Wx c fs n ks.length gW)) (hm : X.mg x = some (.ref (G.at_ c))) (hk : PySem.W.keepIn X.K (.ref (G.at_ c)) = true) (hkw : SK X G Wx kws fk) (hg : Gl X x := by rfl)
    (hall : (backToKw pos (keywordEach kws X.env)).all (·.1.isSome) = true := by rfl) (hks : (backToKw pos (keywordEach kws X.env)).filterMap (·.1) = ks := by rfl) (hdb : (x == ("__debug__" : Str)) = false := by decide)
    (hpl : ((backTo pos (starEach [] X.env)).any (·.1) || (backToKw pos (keywordEach kws X.env)).any (·.1.isNone)) = false := by rfl) :
    SE X G Wx (.Call (.Name x p) [] kws pos) (eMake c fs gW n ks.length eaNil fk) :=
  ⟨PE_imp (pv_call0 cv hg hm hk hkw.pk hall hks hdb hpl) fun σ H Q ⟨R, F, L, st, ok, o⟩ => by
    obtain ⟨R1, F1, L1, st1, ok1, o1⟩ := make_of ok o
    exact o1 F1 L1 H (.refl _ _) ok1 [] .nil, bel_make fb .pure hkw.bel⟩
end
end Pm

set_option maxHeartbeats 2000000
/-! Q6: attributes, items, slices, methods of lists -/
namespace Pm
open PySem PyProof.Rows L2

/-! ### attributes -/
/-- classes whose instances' attribute f is a plain one -/
def FldOk (K : PySem.W.Frag) (g : Nat → Addr) (cs : List Nat) (f : Str) : Prop := ∀ c, c ∈ cs → Cls K (g c) ∧ NoAttr K (g c) f
def fldOf (M : List (Option Cell)) (cs : List Nat) (f : Str) : W → Option Res
  | .d (.obj c fs) => if cs.contains c then (fs.lookup f).map .d else none
  | .loc i => match M[i]? with
    | some (some (.ins c fs)) => if cs.contains c then (fs.lookup f).map W.res else none
    | _ => none
  | _ => none
def eFld (cs : List Nat) (f : Str) (fo : Ev W) : Ev Res := fo.bind fun w => fun st => Ev.lift (fldOf st.M cs f w) st
section
variable {X : Cx} {G : Cl} {Wx : WX} {f : Str} {pos pos' : Pos} {o e : Expr} {cs : List Nat}
theorem fldOf_ok {K : PySem.W.Frag} {R F H : Hp} {L : List Addr} {M : List (Option Cell)} {w : W} {v : V} {r : Res} (hC : FldOk K G.at_ cs f) (rel : Rel K G.at_ R F L M H) (rw' : RepW K G.at_ F L w v) (h : fldOf M cs f w = some r) :
    ∃ a C dx fs u, v = .ref a ∧ H a = some (.ins C dx fs) ∧ Cls K C ∧ NoAttr K C f ∧ fs.lookup f = some u ∧ RepR K G R F L M H r u := by
  cases w with
  | d x =>
    cases x with
    | obj c fs =>
      simp only [fldOf] at h
      split at h
      · rename_i hc
        obtain ⟨d, e1, rfl⟩ := Option.map_eq_some_iff.mp h
        cases rw' with
        | obj e2 e3 rf =>
          obtain ⟨u, hu, ru⟩ := rf.lookup e1
          obtain ⟨h1, h2⟩ := hC c (by simpa using hc)
          exact ⟨_, _, _, _, u, rfl, rel.fh _ _ e2, h1, h2, hu, ru⟩
      · cases h
    | _ => cases h
  | loc i =>
    obtain ⟨a, ha, rfl⟩ := rw'
    simp only [fldOf] at h
    split at h
    · rename_i c fs hc
      split at h
      · rename_i hcs
        obtain ⟨w, e1, rfl⟩ := Option.map_eq_some_iff.mp h
        obtain ⟨b, hb, _, _, dx, vs, e2, eo, _, _, rf⟩ := rel.ce i _ hc
        rw [ha] at hb; cases hb
        obtain ⟨u, hu, ru⟩ := rf.lookup e1
        obtain ⟨h1, h2⟩ := hC c (by simpa using hcs)
        exact ⟨_, _, _, _, u, rfl, e2, h1, h2, hu, repR_W ru⟩
      · cases h
    · cases h
theorem bel_fld {fo : Ev W} (h : Bel fo) : Bel (eFld cs f fo) := h.bind fun w => .same fun st o st' e => by
  unfold Ev.lift at e
  split at e <;> cases e; rfl
theorem se_fld {fo : Ev Res} {ho : Ev W} (hC : FldOk X.K G.at_ cs f) (hw : AsW fo ho) (hso : SE X G Wx o fo) (hb : attributeBase o f X.env (eval o X.env) = eval o X.env := by rfl) : SE X G Wx (.Attribute o f pos) (eFld cs f ho) :=
  ⟨PE_imp (pe_fld hso.pe hb) fun σ H Q ⟨R, F, L, st, ok, q⟩ => by
    refine tE_of ok (hw.out (OutP.bind (f := ho) q fun w st1 F1 L1 H1 x1 ok1 o1 v rw' => ?_))
    obtain ⟨r, er, o2⟩ := OutP.lift o1
    obtain ⟨a, C, dx, fs, u, e1, e2, h1, h2, hu, ru⟩ := fldOf_ok (G := G) hC ok1.rel rw' er
    exact ⟨a, C, dx, fs, u, e1, e2, h1, h2, hu, o2 F1 L1 H1 (.refl _ _) ok1 u ru⟩, bel_fld (hw.bel hso.bel)⟩
/-- o.f = e -/
def putF (st : S) (cs : List Nat) (f : Str) (w : W) : W → Option S
  | .loc i => match st.M[i]? with
    | some (some (.ins c fs)) => if cs.contains c && mayPut st i w && decide (fs.length < 1000) then some ⟨st.sl, st.M.set i (some (.ins c (putW f w fs))), st.b⟩ else none
    | _ => none
  | _ => none
def fFld (cs : List Nat) (f : Str) (fo fv : Ev W) : Ev Fl := fv.bind fun w => fo.bind fun u => fun st => match putF st cs f w u with
  | some st' => some (.ok .nx, st')
  | none => none
theorem below_put {n : Nat} {f : Str} {w : W} (hw : w.below n) : ∀ {fs : List (Str × W)}, (∀ p ∈ fs, p.2.below n) → ∀ p ∈ putW f w fs, p.2.below n
  | [], _, p, hp => by
    have e : p = (f, w) := by simpa [putW] using hp
    rw [e]; exact hw
  | (m, u) :: r, h, p, hp => by
    unfold putW at hp
    split at hp
    · rcases List.mem_cons.mp hp with rfl | hp
      · exact hw
      · exact h p (List.mem_cons_of_mem _ hp)
    · rcases List.mem_cons.mp hp with rfl | hp
      · exact h _ List.mem_cons_self
      · exact below_put hw (fun q hq => h q (List.mem_cons_of_mem _ hq)) p hp
theorem ss_fld {e : Expr} {fo fv : Ev Res} {ho hv : Ev W} (hC : FldOk X.K G.at_ cs f) (hwo : AsW fo ho) (hwv : AsW fv hv) (hso : SE X G Wx o fo) (hsv : SE X G Wx e fv) (hs : swapsWith e (some (.Attribute o f pos')) pos.line X.env = pure false := by rfl) :
    SS X G Wx (.Assign [.Attribute o f pos'] e pos) (fFld cs f ho hv) :=
  ⟨PS_imp (ps_fld hso.pe hsv.pe hs) fun D σ H ⟨R, F, L, st, ok, q⟩ => by
    refine tE_of ok (hwv.out (OutS.bind (f := hv) q fun w st1 F1 L1 H1 x1 ok1 o1 y ry => ?_))
    refine tE_of ok1 (hwo.out (OutS.bind (f := ho) o1 fun u st2 F2 L2 H2 x2 ok2 o2 v ru => ?_))
    cases e : putF st2 cs f w u with
    | none => rw [e] at o2; exact o2.elim
    | some st3 =>
      rw [e] at o2
      cases u with
      | d _ => cases e
      | loc i =>
        simp only [putF] at e
        split at e
        · rename_i c fs hc
          split at e
          · rename_i hh
            cases e
            simp only [Bool.and_eq_true, decide_eq_true_eq] at hh
            obtain ⟨a, ha, rfl⟩ := ru
            obtain ⟨b, hb, f0, r0, dx, vs, e2, eo, f1, r1, rf⟩ := ok2.rel.ce i _ hc
            rw [ha] at hb; cases hb
            obtain ⟨h1, h2⟩ := hC c (by simpa using hh.1.1)
            refine ⟨a, _, dx, vs, rfl, e2, h1, h2, by rw [← rf.length]; exact hh.2, ?_⟩
            have hdx : dx ≠ a := fun z => by rw [z, e2] at eo; cases eo
            exact o2 σ F2 L2 _ (.refl _ _) (ok2.setc hc ha ⟨f0, r0, dx, _, upd_same, by rw [upd_ne hdx]; exact eo, f1, r1, rf.put (ry.ext x2)⟩)
          · cases e
        · (cases e)
   , (hwv.bel hsv.bel).bind fun w => (hwo.bel hso.bel).bind fun u => fun st o st' hb e => by
    cases e1 : putF st cs f w u with
    | none => rw [e1] at e; cases e
    | some st3 =>
      rw [e1] at e; cases e
      cases u with
      | d _ => cases e1
      | loc i =>
        simp only [putF] at e1
        split at e1
        · rename_i c fs hc
          split at e1
          · rename_i hh
            cases e1
            simp only [Bool.and_eq_true, decide_eq_true_eq] at hh
            exact Le.setc hc fun hi n hn => below_put (mayPut_below hh.1.2 hi) hn
          · cases e1
        · cases e1⟩
end

/-! ### items -/
def ixD : D → D → Option Res
  | .tup ds, .int i => (atI ds i).map .d
  | .lst ds, .int i => (atI ds i).map .d
  | .scr ds, .int i => (atI ds i).map .d
  | .str x, .int i => if x.length ≤ sizeLine then (atI x.cps.toList i).map fun c => .d (.str ⟨#[c]⟩) else none
  | _, _ => none
/-- an item: of data, or of a cell that may hold cells -/
def ixM (M : List (Option Cell)) (w : W) (i : D) : Option Res := match w, i with
  | .loc j, .int k => match M[j]? with
    | some (some (.lst ws)) => (atI ws k).map W.res
    | _ => none
  | .d x, i => ixD x i
  | _, _ => none
def eIx (f h : Ev Res) : Ev Res := (evW f).bind fun w => (evD h).bind fun i => fun st => Ev.lift (ixM st.M w i) st
theorem atI_rep {K : PySem.W.Frag} {g : Nat → Addr} {F : Hp} {ds : List D} {vs : List V} {i : Int} {d : D} (r : Reps K g F ds vs) (h : atI ds i = some d) : ∃ v, atI vs i = some v ∧ Rep K g F d v := by
  unfold atI at h ⊢
  rw [← r.length]
  cases e : ixN ds.length i with
  | none => rw [e] at h; cases h
  | some j =>
    rw [e] at h
    obtain ⟨v, hv, rv⟩ := r.get (show ds[j]? = some d from h)
    exact ⟨v, hv, rv⟩
theorem atI_repW {K : PySem.W.Frag} {g : Nat → Addr} {F : Hp} {L : List Addr} {ds : List W} {vs : List V} {i : Int} {d : W} (r : RepWs K g F L ds vs) (h : atI ds i = some d) : ∃ v, atI vs i = some v ∧ RepW K g F L d v := by
  unfold atI at h ⊢
  rw [← r.length]
  cases e : ixN ds.length i with
  | none => rw [e] at h; cases h
  | some j =>
    rw [e] at h
    obtain ⟨v, hv, rv⟩ := r.get (show ds[j]? = some d from h)
    exact ⟨v, hv, rv⟩
section
variable {X : Cx} {G : Cl} {Wx : WX} {pos : Pos} {a b : Expr} {f h : Ev Res}
theorem ixM_ok {K : PySem.W.Frag} {R F H : Hp} {L : List Addr} {M : List (Option Cell)} {w : W} {i : D} {v u : V} {r : Res} {Q : VK} (rel : Rel K G.at_ R F L M H) (rw' : RepW K G.at_ F L w v) (ri : Rep K G.at_ F i u) (e : ixM M w i = some r) (q : ∀ z, RepR K G R F L M H r z → Q z H) :
    rIx K v u H Q := by
  unfold ixM at e
  split at e
  · rename_i j k
    cases ri
    obtain ⟨a, ha, rfl⟩ := rw'
    split at e
    · rename_i ws hc
      obtain ⟨w0, e1, rfl⟩ := Option.map_eq_some_iff.mp e
      obtain ⟨b, hb, _, _, vs, hv, rs⟩ := rel.ce j _ hc
      rw [ha] at hb; cases hb
      obtain ⟨z, hz, rz⟩ := atI_repW rs e1
      exact .inl ⟨a, vs, k, z, rfl, rfl, SqL.of hv, hz, q z (repR_W rz)⟩
    · cases e
  · rename_i x
    cases x <;> try cases e
    case tup ds =>
      cases i <;> try cases e
      rename_i k
      simp only [ixD] at e
      obtain ⟨d, e1, rfl⟩ := Option.map_eq_some_iff.mp e
      cases ri
      cases rw' with
      | tup s rs =>
        obtain ⟨z, hz, rz⟩ := atI_rep rs e1
        exact .inr (.inl ⟨_, _, k, z, rfl, rfl, sub_t rel.fh s, hz, q z rz⟩)
    case lst ds =>
      cases i <;> try cases e
      rename_i k
      simp only [ixD] at e
      obtain ⟨d, e1, rfl⟩ := Option.map_eq_some_iff.mp e
      cases ri
      cases rw' with
      | lst s rs =>
        obtain ⟨z, hz, rz⟩ := atI_rep rs e1
        exact .inl ⟨_, _, k, z, rfl, rfl, SqL.of (rel.fh _ _ s), hz, q z rz⟩
    case scr ds =>
      cases i <;> try cases e
      rename_i k
      simp only [ixD] at e
      obtain ⟨d, e1, rfl⟩ := Option.map_eq_some_iff.mp e
      cases ri
      cases rw' with
      | scr s rs =>
        obtain ⟨z, hz, rz⟩ := atI_rep rs e1
        exact .inl ⟨_, _, k, z, rfl, rfl, sub_l rel.fh s, hz, q z rz⟩
    case str x =>
      cases i <;> try cases e
      rename_i k
      simp only [ixD] at e
      split at e
      · rename_i hl
        obtain ⟨c, e1, rfl⟩ := Option.map_eq_some_iff.mp e
        cases ri
        cases rw'
        exact .inr (.inr ⟨x, k, c, rfl, rfl, hl, e1, q _ (.str _)⟩)
      · cases e
  · cases e
theorem bel_ix (bf : Bel f) (bh : Bel h) : Bel (eIx f h) := (bel_evW bf).bind fun w => (bel_evD bh).bind fun i => .same fun st o st' e => by
  unfold Ev.lift at e
  split at e <;> cases e; rfl
theorem se_ix (ha : SE X G Wx a f) (hb : SE X G Wx b h) (hs : PlainIx b := by exact fun _ _ => rfl) : SE X G Wx (.Subscript a b pos) (eIx f h) :=
  ⟨PE_imp (pe_ix ix_seq ha.pe hb.pe hs) fun σ H Q ⟨R, F, L, st, ok, o⟩ => by
    refine tE_W ok (OutP.bind (f := evW f) o fun w st1 F1 L1 H1 x1 ok1 o1 v rv => ?_)
    refine tE_D ok1 (OutP.bind (f := evD h) o1 fun i st2 F2 L2 H2 x2 ok2 o2 u ru => ?_)
    obtain ⟨r, er, o3⟩ := OutP.lift o2
    exact ixM_ok (G := G) ok2.rel (rv.ext x2) ru er fun z rz => o3 F2 L2 H2 (.refl _ _) ok2 z rz, bel_ix ha.bel hb.bel⟩
end

/-! ### slices -/
def cutD {α : Type} (xs : List α) (lo hi : Option Int) : List α := (xs.drop (HT.sIx xs.length 0 lo)).take (HT.sIx xs.length xs.length hi - HT.sIx xs.length 0 lo)
def slD : D → Option Int → Option Int → Option Res
  | .str x, lo, hi => if x.length ≤ sizeLine then some (.d (.str (cutS x lo hi))) else none
  | .tup ds, lo, hi => some (.d (.tup (cutD ds lo hi)))
  | .lst ds, lo, hi => some (.new (.lst ((cutD ds lo hi).map .d)))
  | _, _, _ => none
structure SO (X : Cx) (G : Cl) (Wx : WX) (e : Option Expr) (f : Ev (Option Int)) : Prop where
  po : PO X e (fun σ H Q => ∃ R F L st, Ok X.K G R F L st σ H ∧ OutP X.K G Wx R F L σ (fun o _ _ _ H' => Q o H') (f st))
  bel : Bel f
theorem PO_imp {X : Cx} {e : Option Expr} {t t' : TO} (h : PO X e t) (k : ∀ σ H Q, t' σ H Q → t σ H Q) : PO X e t' :=
  ⟨fun pins s σ H Q I hw => h.run pins s σ H Q I (k σ H Q hw)⟩
def eoN : Ev (Option Int) := fun st => some (.ok none, st)
def eoS (f : Ev Res) : Ev (Option Int) := (evD f).bind fun d => match d with
  | .int i => fun st => some (.ok (some i), st)
  | _ => Ev.fail
def eSl (f : Ev Res) (lo hi : Ev (Option Int)) : Ev Res := (evW f).bind fun w => lo.bind fun l => hi.bind fun u => fun st => match view st.M w with
  | some x => Ev.lift (slD x l u) st
  | none => none
section
variable {X : Cx} {G : Cl} {Wx : WX} {pos p2 : Pos} {e : Expr} {f : Ev Res} {lo hi : Option Expr} {fl fh : Ev (Option Int)}
theorem so_none : SO X G Wx none eoN := ⟨PO_imp po_none fun σ H Q ⟨R, F, L, st, ok, o⟩ => o F L H (.refl _ _) ok, .pure⟩
theorem so_some (h : SE X G Wx e f) : SO X G Wx (some e) (eoS f) :=
  ⟨PO_imp (po_some h.pe) fun σ H Q ⟨R, F, L, st, ok, o⟩ => tE_D ok (OutP.bind (f := evD f) o fun d st1 F1 L1 H1 x1 ok1 o1 v rv => by
    cases d with
    | int i => cases rv; exact ⟨i, rfl, o1 F1 L1 H1 (.refl _ _) ok1⟩
    | _ => exact o1.elim), (bel_evD h.bel).bind fun d => by cases d <;> first | exact .pure | exact .fail'⟩
theorem cutD_rep {K : PySem.W.Frag} {g : Nat → Addr} {F : Hp} {ds : List D} {vs : List V} {l u : Option Int} (r : Reps K g F ds vs) : Reps K g F (cutD ds l u) (cutV vs l u) := by
  unfold cutD cutV
  rw [← r.length]
  exact (r.drop _).take _
theorem cutV_whole {xs : List V} {lo hi : Option Int} (h : HT.sIx xs.length 0 lo = 0 ∧ HT.sIx xs.length xs.length hi = xs.length) : cutV xs lo hi = xs := by
  unfold cutV
  rw [h.1, h.2]
  simp
def rSlD (K : PySem.W.Frag) (G : Cl) : V → Option Int → Option Int → Hp → VK → Prop := fun x lo hi H Q => ∃ R F L M a r, Rel K G.at_ R F L M H ∧ RepV K G.at_ F H a x ∧ slD a lo hi = some r ∧
  ∀ v F' H', Sub F F' → Rel K G.at_ R F' L M H' → RepR K G R F' L M H' r v → Q v H'
theorem sl_dat : SlR X (rSlD X.K G) := by
  intro pins s σ H x v vl vu l u sl Q I rx hs pl pu ⟨R, F, L, M, a, r, rel, ra, e, q⟩
  have lst : ∀ {p ds vs}, a = .lst ds → x = .ref p → H p = some (.lst vs) → Reps X.K G.at_ F ds vs → rSlL X.K x l u H Q := fun {p ds vs} ea ex hp rs => by
    subst ea; subst ex
    simp only [slD] at e
    cases e
    refine ⟨p, vs, rfl, SqL.of hp, fun p' hn => ?_⟩
    obtain ⟨h1, h2⟩ := rel.newLst (G := G) hn (cutD_rep (l := l) (u := u) rs).toW
    exact q _ F _ (.refl _) h1 h2
  cases ra with
  | rep ra =>
    cases ra <;> try (simp only [slD] at e; done)
    case str x =>
      simp only [slD] at e
      split at e
      · rename_i hl
        cases e
        exact sl_str pins s σ H _ v vl vu l u sl Q I rx hs pl pu ⟨x, rfl, hl, q _ F H (.refl _) rel (.str _)⟩
      · cases e
    case tup p ds vs sq rs =>
      simp only [slD] at e
      cases e
      refine sl_tupA pins s σ H _ v vl vu l u sl Q I rx hs pl pu ⟨p, vs, rfl, sub_t rel.fh sq, fun hw => ?_, fun hw p' hn => ?_⟩
      · refine q _ F H (.refl _) rel (.tup sq ?_)
        have := cutD_rep (l := l) (u := u) rs
        rw [cutV_whole hw] at this
        exact this
      · obtain ⟨h1, h2, h3⟩ := rel.newTup hn (cutD_rep (l := l) (u := u) rs)
        exact q _ _ _ h1 h2 h3
    case lst p ds vs sq rs => exact sl_list pins s σ H _ v vl vu l u sl Q I rx hs pl pu (lst rfl rfl (rel.fh _ _ sq) rs)
    all_goals cases e
  | lst hp rs => exact sl_list pins s σ H _ v vl vu l u sl Q I rx hs pl pu (lst rfl rfl hp rs)
  | obj _ _ _ => cases e
theorem se_slice (he : SE X G Wx e f) (hl : SO X G Wx lo fl) (hu : SO X G Wx hi fh) : SE X G Wx (.Subscript e (.Slice lo hi none p2) pos) (eSl f fl fh) :=
  ⟨PE_imp (pe_slice sl_dat he.pe hl.po hu.po) fun σ H Q ⟨R, F, L, st, ok, o⟩ => by
    refine tE_W ok (OutP.bind (f := evW f) o fun w st1 F1 L1 H1 x1 ok1 o1 v rv => ?_)
    refine ⟨R, F1, L1, st1, ok1, OutP.bind (f := fl) o1 fun l st2 F2 L2 H2 x2 ok2 o2 => ?_⟩
    refine ⟨R, F2, L2, st2, ok2, OutP.bind (f := fh) o2 fun u st3 F3 L3 H3 x3 ok3 o3 => ?_⟩
    cases e1 : view st3.M w with
    | none => rw [e1] at o3; exact o3.elim
    | some x =>
      rw [e1] at o3
      obtain ⟨r, er, o4⟩ := OutP.lift o3
      exact ⟨R, F3, L3, st3.M, x, r, ok3.rel, ok3.rel.view ((rv.ext x2).ext x3) e1, er, fun z F' H' s rel rr => o4 F' L3 H' (.frz s) (ok3.with s rel) z rr⟩,
   (bel_evW he.bel).bind fun w => hl.bel.bind fun l => hu.bel.bind fun u => .same fun st o st' e => by
    split at e
    · unfold Ev.lift at e; split at e <;> cases e; rfl
    · cases e⟩
end

/-! ### methods of a list that is a cell -/
def lstAt (M : List (Option Cell)) : W → Option (Nat × List W)
  | .loc i => match M[i]? with
    | some (some (.lst ws)) => some (i, ws)
    | _ => none
  | _ => none
/-- the list, the arguments, then a step on what it holds -/
def eLm (step : S → Nat → List W → List W → Option (Res × List W)) (fo : Ev W) (fa : Ev (List W)) : Ev Res := fo.bind fun w => fun st => match lstAt st.M w with
  | none => none
  | some _ => (fa.bind fun as => fun st => match lstAt st.M w with
    | none => none
    | some (i, ws) => match step st i ws as with
      | some (r, ws') => some (.ok r, ⟨st.sl, st.M.set i (some (.lst ws')), st.b⟩)
      | none => none) st
structure LmOk (X : Cx) (G : Cl) (r : V → List V → Hp → VK → Prop) (step : S → Nat → List W → List W → Option (Res × List W)) : Prop where
  run : ∀ (R F : Hp) (L : List Addr) (st : S) (σ : L2.St) (H : Hp) (i : Nat) (ws as ws' : List W) (res : Res) (a : Addr) (vs zs : List V) (Q : VK), Ok X.K G R F L st σ H → st.M[i]? = some (some (.lst ws)) → L[i]? = some a → F a = none → R a = none → H a = some (.lst vs) → RepWs X.K G.at_ F L ws vs → RepWs X.K G.at_ F L as zs →
    step st i ws as = some (res, ws') → (∀ v vs', RepWs X.K G.at_ F L ws' vs' → (∀ H', Rel X.K G.at_ R F L (st.M.set i (some (.lst ws'))) H' → RepR X.K G R F L (st.M.set i (some (.lst ws'))) H' res v) → Q v (upd H a (.lst vs'))) → r (.ref a) zs H Q
  bel : ∀ (st : S) (i : Nat) (ws as ws' : List W) (res : Res), step st i ws as = some (res, ws') → i < st.b → ∀ n, (Cell.lst ws).below n → (Cell.lst ws').below n
theorem lstAt_ok {K : PySem.W.Frag} {g : Nat → Addr} {R F H : Hp} {L : List Addr} {M : List (Option Cell)} {w : W} {v : V} {i : Nat} {ws : List W} (rel : Rel K g R F L M H) (r : RepW K g F L w v) (h : lstAt M w = some (i, ws)) :
    ∃ a vs, w = .loc i ∧ v = .ref a ∧ M[i]? = some (some (.lst ws)) ∧ L[i]? = some a ∧ F a = none ∧ R a = none ∧ H a = some (.lst vs) ∧ RepWs K g F L ws vs := by
  cases w with
  | d _ => cases h
  | loc j =>
    simp only [lstAt] at h
    split at h
    · rename_i ws' hc
      cases h
      obtain ⟨a, ha, rfl⟩ := r
      obtain ⟨b, hb, f0, r0, vs, hv, rs⟩ := rel.ce _ _ hc
      rw [ha] at hb; cases hb
      exact ⟨a, vs, rfl, rfl, hc, ha, f0, r0, hv, rs⟩
    · cases h
section
variable {X : Cx} {G : Cl} {Wx : WX} {apos cpos : Pos} {e o : Expr} {es : List Expr} {name : Str} {id : String} {r : V → List V → Hp → VK → Prop} {step : S → Nat → List W → List W → Option (Res × List W)} {fo : Ev Res} {ho : Ev W} {fa : Ev (List W)}
theorem lm_of (lm : LmOk X G r step) (hw : AsW fo ho) {R F0 : Hp} {L : List Addr} {st : S} {σ : L2.St} {H : Hp} {Q : VK} (ok : Ok X.K G R F0 L st σ H) (q : OutE X.K G Wx R F0 L σ Q (eLm step ho fa st)) :
    tBM X.K "list" r (tE X.K G Wx fo) (tA X.K G Wx fa) σ H Q := by
  refine tE_of ok (hw.out (OutP.bind (f := ho) q fun w st1 F1 L1 H1 x1 ok1 o1 v rv => ?_))
  cases e1 : lstAt st1.M w with
  | none => rw [e1] at o1; exact o1.elim
  | some p =>
    rw [e1] at o1
    obtain ⟨i, ws⟩ := p
    obtain ⟨a, vs, rfl, rfl, hc, ha, f0, r0, hv, rs⟩ := lstAt_ok ok1.rel rv e1
    refine ⟨.inl ⟨rfl, vs, SqL.of hv⟩, R, F1, L1, st1, ok1, OutP.bind (f := fa) o1 fun as st2 F2 L2 H2 x2 ok2 o2 zs rz => ?_⟩
    cases e2 : lstAt st2.M (.loc i) with
    | none => rw [e2] at o2; exact o2.elim
    | some p2 =>
      rw [e2] at o2
      obtain ⟨i2, ws2⟩ := p2
      obtain ⟨a2, vs2, ei, ea, hc2, ha2, f2, r2, hv2, rs2⟩ := lstAt_ok ok2.rel (rv.ext x2) e2
      cases ei; cases ea
      dsimp only at o2
      cases e3 : step st2 i ws2 as with
      | none => rw [e3] at o2; exact o2.elim
      | some p3 =>
        rw [e3] at o2
        obtain ⟨res, ws'⟩ := p3
        refine lm.run R F2 L2 st2 σ H2 i ws2 as ws' res a vs2 zs Q ok2 hc2 ha2 f2 r2 hv2 rs2 rz e3 fun v vs' rs' rr => ?_
        have ok3 := ok2.setc (c' := .lst ws') (o := .lst vs') hc2 ha2 ⟨f2, r2, vs', upd_same, rs'⟩
        exact o2 F2 L2 _ (.refl _ _) ok3 v (rr _ ok3.rel)
theorem bel_lm (lm : LmOk X G r step) (bo : Bel ho) (ba : Bel fa) : Bel (eLm step ho fa) := bo.bind fun w => fun st o st' hb e => by
  split at e
  · cases e
  · refine (ba.bind fun as => fun st o st' hb e => ?_) st o st' hb e
    split at e
    · cases e
    · rename_i i ws hl
      split at e
      · rename_i res ws' hs
        cases e
        have hc : st.M[i]? = some (some (.lst ws)) := by
          cases w with
          | d _ => cases hl
          | loc j =>
            simp only [lstAt] at hl
            split at hl
            · rename_i hc; cases hl; exact hc
            · cases hl
        exact Le.setc hc fun hi n hn => lm.bel st i ws as ws' res hs hi n hn
      · cases e
theorem se_lm (lm : LmOk X G r step) (slot : Slot "list" name id) (hty : typeOf (.builtin id) = pure (.type "method_descriptor")) (hm : MtR X id r) (hw : AsW fo ho) (hso : SE X G Wx o fo) (ha : SA X G Wx (e :: es) fa)
    (hbase : attributeBase o name X.env (eval o X.env) = eval o X.env := by rfl)
    (hfew : ((backTo cpos (starEach (e :: es) X.env)).all (fun x => !x.1) && (backToKw cpos (keywordEach [] X.env)).all (fun x => x.1.isSome)
      && decide ((e :: es).length + ([] : List Keyword).length + (if ([] : List Keyword).isEmpty then 0 else 1) < 30)) = true := by rfl)
    (hline : (apos.endLine == cpos.line) = true := by rfl) (hs : starEach (e :: es) X.env = (false, eval e X.env) :: starEach es X.env := by rfl) (hplain : (backTo cpos (starEach es X.env)).any (·.1) = false := by rfl) :
    SE X G Wx (.Call (.Attribute o name apos) (e :: es) [] cpos) (eLm step ho fa) :=
  ⟨PE_imp (pe_bm PySem.F.plainAttrs_list slot hty hm hso.pe ha.pa hbase hfew hline hs hplain) fun σ H Q ⟨R, F, L, st, ok, q⟩ => lm_of lm hw ok q, bel_lm lm (hw.bel hso.bel) ha.bel⟩
theorem se_lm0 (lm : LmOk X G r step) (slot : Slot "list" name id) (hty : typeOf (.builtin id) = pure (.type "method_descriptor")) (hm : MtR X id r) (hw : AsW fo ho) (hso : SE X G Wx o fo)
    (hbase : attributeBase o name X.env (eval o X.env) = eval o X.env := by rfl) (hline : (apos.endLine == cpos.line) = true := by rfl) : SE X G Wx (.Call (.Attribute o name apos) [] [] cpos) (eLm step ho eaNil) :=
  ⟨PE_imp (pe_bm0 PySem.F.plainAttrs_list slot hty hm hso.pe hbase hline) fun σ H Q ⟨R, F, L, st, ok, q⟩ => by
    obtain ⟨R1, F1, L1, st1, ok1, o1⟩ := lm_of (Wx := Wx) (fa := eaNil) lm hw ok q
    refine ⟨R1, F1, L1, st1, ok1, OutP.imp o1 fun r st2 F2 L2 H2 x2 ok2 p v rr => ?_⟩
    obtain ⟨ty, R3, F3, L3, st3, ok3, o3⟩ := p v rr
    exact ⟨ty, o3 F3 L3 _ (.refl _ _) ok3 [] .nil⟩, bel_lm lm (hw.bel hso.bel) .pure⟩
def stAppend : S → Nat → List W → List W → Option (Res × List W) := fun st i ws as => match as with
  | [w] => if mayPut st i w && decide (ws.length < sizeLine) then some (.d .non, ws ++ [w]) else none
  | _ => none
theorem lm_append : LmOk X G rAppend stAppend where
  run := fun R F L st σ H i ws as ws' res a vs zs Q ok hc ha f0 r0 hv rs rz e q => by
    unfold stAppend at e
    split at e
    · rename_i w
      split at e
      · rename_i hh
        cases e
        simp only [Bool.and_eq_true, decide_eq_true_eq] at hh
        cases rz with
        | cons rw' rn =>
          cases rn
          exact ⟨a, vs, _, rfl, rfl, hv, by rw [← rs.length]; exact hh.2, q .non _ (rs.append (.cons rw' .nil)) fun _ _ => .non⟩
      · cases e
    · cases e
  bel := fun st i ws as ws' res e hi n hn w hw => by
    unfold stAppend at e
    split at e
    · split at e
      · rename_i hh
        cases e
        simp only [Bool.and_eq_true] at hh
        rcases List.mem_append.mp hw with h | h
        · exact hn w h
        · obtain rfl := List.mem_singleton.mp h
          exact mayPut_below hh.1 hi
      · cases e
    · cases e
theorem se_append (hw : AsW fo ho) (hso : SE X G Wx o fo) (ha : SA X G Wx (e :: es) fa)
    (hbase : attributeBase o "append" X.env (eval o X.env) = eval o X.env := by rfl)
    (hfew : ((backTo cpos (starEach (e :: es) X.env)).all (fun x => !x.1) && (backToKw cpos (keywordEach [] X.env)).all (fun x => x.1.isSome)
      && decide ((e :: es).length + ([] : List Keyword).length + (if ([] : List Keyword).isEmpty then 0 else 1) < 30)) = true := by rfl)
    (hline : (apos.endLine == cpos.line) = true := by rfl) (hs : starEach (e :: es) X.env = (false, eval e X.env) :: starEach es X.env := by rfl) (hplain : (backTo cpos (starEach es X.env)).any (·.1) = false := by rfl) :
    SE X G Wx (.Call (.Attribute o "append" apos) (e :: es) [] cpos) (eLm stAppend ho fa) :=
  se_lm lm_append PySem.F.slot_list_append PySem.F.type_list_append mt_append hw hso ha hbase hfew hline hs hplain
/-! ### o[i] = e, o a list -/
def fIx (fo : Ev W) (fi : Ev D) (fv : Ev W) : Ev Fl := fv.bind fun w => fo.bind fun u => fi.bind fun i => fun st => match lstAt st.M u, i with
  | some (j, ws), .int k => match ixN ws.length k with
    | some n => if mayPut st j w then some (.ok .nx, ⟨st.sl, st.M.set j (some (.lst (ws.set n w))), st.b⟩) else none
    | none => none
  | _, _ => none
theorem below_set {n : Nat} {w : W} (hw : w.below n) : ∀ {ws : List W} (j : Nat), (∀ u ∈ ws, u.below n) → ∀ u ∈ ws.set j w, u.below n := fun {ws} j h u hu => by
  rcases List.mem_or_eq_of_mem_set hu with q | q
  · exact h u q
  · rw [q]; exact hw
theorem ss_ix {i e : Expr} {fv fi : Ev Res} {hv : Ev W} {tpos pos : Pos} (hwo : AsW fo ho) (hwv : AsW fv hv) (hso : SE X G Wx o fo) (hsi : SE X G Wx i fi) (hsv : SE X G Wx e fv)
    (ha : ∀ v, assign (.Subscript o i tpos) X.env v = (do
      let ov ← holding [v] (eval o X.env)
      let iv ← holding [v, ov] (eval i X.env)
      standAt tpos
      holding [v, ov, iv] (setItem ov iv v)
      release [v, ov, iv] []) := by intro _; rfl)
    (hs : swapsWithSole [.Subscript o i tpos] e pos.line X.env = pure false := by rfl) (hw : swappedStores [.Subscript o i tpos] e X.env = pure none := by rfl)
    (h1 : (assignEach [.Subscript o i tpos] X.env).map (·.2) = [assign (.Subscript o i tpos) X.env] := by rfl) : SS X G Wx (.Assign [.Subscript o i tpos] e pos) (fIx ho (evD fi) hv) :=
  ⟨PS_imp (ps_asg hsv.pe (pg_sub hso.pe hsi.pe set_list ha) hs hw h1) fun D σ H ⟨R, F, L, st, ok, q⟩ => by
    refine tE_of ok (hwv.out (OutS.bind (f := hv) q fun w st1 F1 L1 H1 x1 ok1 o1 y ry => ?_))
    refine tE_of ok1 (hwo.out (OutS.bind (f := ho) o1 fun u st2 F2 L2 H2 x2 ok2 o2 v ru => ?_))
    refine tE_D ok2 (OutS.bind (f := evD fi) o2 fun k st3 F3 L3 H3 x3 ok3 o3 z rk => ?_)
    cases e1 : lstAt st3.M u with
    | none => rw [e1] at o3; exact o3.elim
    | some p =>
      rw [e1] at o3
      obtain ⟨j, ws⟩ := p
      obtain ⟨a, vs, rfl, rfl, hc, ha, f0, r0, hv, rs⟩ := lstAt_ok ok3.rel (ru.ext x3) e1
      cases k with
      | int k =>
        cases rk
        dsimp only at o3
        split at o3
        · rename_i n hn
          split at o3
          · refine ⟨a, vs, k, n, rfl, rfl, hv, by rw [← rs.length]; exact hn, ?_⟩
            exact o3 σ F3 L3 _ (.refl _ _) (ok3.setc (c' := .lst (ws.set n w)) (o := .lst (vs.set n y)) hc ha ⟨f0, r0, _, upd_same, rs.set ((ry.ext x2).ext x3) n⟩)
          · exact o3.elim
        · exact o3.elim
      | _ => exact o3.elim,
   (hwv.bel hsv.bel).bind fun w => (hwo.bel hso.bel).bind fun u => (bel_evD hsi.bel).bind fun k => fun st o st' hb e => by
    split at e
    · rename_i j ws k hl
      split at e
      · split at e
        · rename_i hm
          cases e
          have hc : st.M[j]? = some (some (.lst ws)) := by
            cases u with
            | d _ => cases hl
            | loc i =>
              simp only [lstAt] at hl
              split at hl
              · rename_i hc; cases hl; exact hc
              · cases hl
          exact Le.setc hc fun hi n hn => below_set (mayPut_below hm hi) _ hn
        · cases e
      · cases e
    · cases e⟩
end
end Pm

set_option maxHeartbeats 2000000
/-! Q7: what the operators compute -/
namespace Pm
open PySem PyProof.Rows L2

/-! ### equality of data -/
mutual
def dEq : D → D → Bool
  | .non, .non => true
  | .bl a, .bl b => a == b
  | .bl a, .int j => (if a then 1 else 0) == j
  | .int i, .bl b => i == (if b then 1 else 0)
  | .int i, .int j => i == j
  | .str x, .str y => x == y
  | .tup xs, .tup ys => dEqs xs ys
  | .lst xs, .lst ys => dEqs xs ys
  | .scr xs, .lst ys => dEqs xs ys
  | .lst xs, .scr ys => dEqs xs ys
  | .scr xs, .scr ys => dEqs xs ys
  | _, _ => false
def dEqs : List D → List D → Bool
  | [], [] => true
  | x :: xs, y :: ys => dEq x y && dEqs xs ys
  | _, _ => false
end
mutual
def toPy : D → PyData
  | .bl b => .bool b
  | .int i => .int i
  | .str x => .str x
  | .tup xs => .tuple (toPys xs)
  | .lst xs => .list (toPys xs)
  | .scr xs => .list (toPys xs)
  | _ => .none
def toPys : List D → List PyData
  | [] => []
  | x :: xs => toPy x :: toPys xs
end
mutual
/-- plain data of at most this depth, texts of possible signs -/
def okD : Nat → D → Bool
  | _, .non => true
  | _, .bl _ => true
  | _, .int _ => true
  | _, .str x => PyData.strOk x
  | n + 1, .tup xs => okDs n xs
  | n + 1, .lst xs => okDs n xs
  | n + 1, .scr xs => okDs n xs
  | _, _ => false
def okDs : Nat → List D → Bool
  | _, [] => true
  | n, x :: xs => okD n x && okDs n xs
end
theorem okDs_all (n : Nat) : ∀ xs : List D, okDs n xs = xs.all (okD n)
  | [] => by simp [okDs]
  | x :: xs => by simp [okDs, okDs_all n xs]
mutual
theorem eqv_toPy : ∀ (n m : Nat) (a b : D), okD n a = true → okD m b = true → PyData.eqv (toPy a) (toPy b) = dEq a b
  | n, m, .non, b, ha, hb => by cases b <;> simp [okD] at hb <;> simp [toPy, PyData.eqv, dEq]
  | n, m, .bl x, b, ha, hb => by cases b <;> simp [okD] at hb <;> simp [toPy, PyData.eqv, dEq]
  | n, m, .int x, b, ha, hb => by cases b <;> simp [okD] at hb <;> simp [toPy, PyData.eqv, dEq]
  | n, m, .str x, b, ha, hb => by cases b <;> simp [okD] at hb <;> simp [toPy, PyData.eqv, dEq]
  | n, m, .ty x, b, ha, hb => by cases n <;> simp [okD] at ha
  | n, m, .cls x, b, ha, hb => by cases n <;> simp [okD] at ha
  | n, m, .obj x fs, b, ha, hb => by cases n <;> simp [okD] at ha
  | 0, m, .tup xs, b, ha, hb => by simp [okD] at ha
  | 0, m, .lst xs, b, ha, hb => by simp [okD] at ha
  | 0, m, .scr xs, b, ha, hb => by simp [okD] at ha
  | n + 1, m, .tup xs, b, ha, hb => by
    cases b with
    | tup ys =>
      cases m with
      | zero => simp [okD] at hb
      | succ m => simp only [okD] at ha hb; simp only [toPy, PyData.eqv, dEq]; exact eqvs_toPy n m xs ys ha hb
    | _ => first | (cases m <;> simp [okD] at hb; done) | (cases m <;> simp [okD] at hb <;> simp [toPy, PyData.eqv, dEq])
  | n + 1, m, .lst xs, b, ha, hb => by
    cases b with
    | lst ys =>
      cases m with
      | zero => simp [okD] at hb
      | succ m => simp only [okD] at ha hb; simp only [toPy, PyData.eqv, dEq]; exact eqvs_toPy n m xs ys ha hb
    | scr ys =>
      cases m with
      | zero => simp [okD] at hb
      | succ m => simp only [okD] at ha hb; simp only [toPy, PyData.eqv, dEq]; exact eqvs_toPy n m xs ys ha hb
    | _ => first | (cases m <;> simp [okD] at hb; done) | (cases m <;> simp [okD] at hb <;> simp [toPy, PyData.eqv, dEq])
  | n + 1, m, .scr xs, b, ha, hb => by
    cases b with
    | lst ys =>
      cases m with
      | zero => simp [okD] at hb
      | succ m => simp only [okD] at ha hb; simp only [toPy, PyData.eqv, dEq]; exact eqvs_toPy n m xs ys ha hb
    | scr ys =>
      cases m with
      | zero => simp [okD] at hb
      | succ m => simp only [okD] at ha hb; simp only [toPy, PyData.eqv, dEq]; exact eqvs_toPy n m xs ys ha hb
    | _ => first | (cases m <;> simp [okD] at hb; done) | (cases m <;> simp [okD] at hb <;> simp [toPy, PyData.eqv, dEq])
theorem eqvs_toPy : ∀ (n m : Nat) (a b : List D), okDs n a = true → okDs m b = true → PyData.eqvAll (toPys a) (toPys b) = dEqs a b
  | n, m, [], [], ha, hb => by simp [toPys, PyData.eqvAll, dEqs]
  | n, m, [], y :: ys, ha, hb => by simp [toPys, PyData.eqvAll, dEqs]
  | n, m, x :: xs, [], ha, hb => by simp [toPys, PyData.eqvAll, dEqs]
  | n, m, x :: xs, y :: ys, ha, hb => by
    simp only [okDs, Bool.and_eq_true] at ha hb
    simp only [toPys, PyData.eqvAll, dEqs]
    rw [eqv_toPy n m x y ha.1 hb.1, eqvs_toPy n m xs ys ha.2 hb.2]
end
mutual
theorem lay_ok : ∀ (n : Nat) (a : D), okD n a = true → PyData.canLay0 (toPy a) = true ∧ PyData.depth (toPy a) ≤ n
  | n, .non, h => by simp [toPy, PyData.canLay0, PyData.depth]
  | n, .bl b, h => by simp [toPy, PyData.canLay0, PyData.depth]
  | n, .int b, h => by simp [toPy, PyData.canLay0, PyData.depth]
  | n, .str x, h => by simp [okD] at h; simp [toPy, PyData.canLay0, PyData.depth, h]
  | n, .ty x, h => by cases n <;> simp [okD] at h
  | n, .cls x, h => by cases n <;> simp [okD] at h
  | n, .obj x fs, h => by cases n <;> simp [okD] at h
  | 0, .tup xs, h => by simp [okD] at h
  | 0, .lst xs, h => by simp [okD] at h
  | 0, .scr xs, h => by simp [okD] at h
  | n + 1, .tup xs, h => by
    have := lays_ok n xs (by simpa [okD] using h)
    simp only [toPy, PyData.canLay0, PyData.depth]
    exact ⟨this.1, by omega⟩
  | n + 1, .lst xs, h => by
    have := lays_ok n xs (by simpa [okD] using h)
    simp only [toPy, PyData.canLay0, PyData.depth]
    exact ⟨this.1, by omega⟩
  | n + 1, .scr xs, h => by
    have := lays_ok n xs (by simpa [okD] using h)
    simp only [toPy, PyData.canLay0, PyData.depth]
    exact ⟨this.1, by omega⟩
theorem lays_ok : ∀ (n : Nat) (a : List D), okDs n a = true → PyData.canLayAll0 (toPys a) = true ∧ PyData.depthAll (toPys a) ≤ n
  | n, [], h => by simp [toPys, PyData.canLayAll0, PyData.depthAll]
  | n, x :: xs, h => by
    simp only [okDs, Bool.and_eq_true] at h
    have h1 := lay_ok n x h.1
    have h2 := lays_ok n xs h.2
    simp only [toPys, PyData.canLayAll0, PyData.depthAll, Bool.and_eq_true]
    exact ⟨⟨h1.1, h2.1⟩, by omega⟩
end
theorem shaped_ok {n : Nat} {a : D} (hn : n ≤ 64) (h : okD n a = true) : SeqAt.shaped (toPy a) = true := by
  obtain ⟨h1, h2⟩ := lay_ok n a h
  unfold SeqAt.shaped
  rw [h1, Bool.true_and]
  exact decide_eq_true (by omega)
section
variable {K : PySem.W.Frag} {g : Nat → Addr} {F H : Hp}
mutual
theorem Rep.dp (s : Sub F H) : ∀ {n : Nat} {d : D} {v : V}, Rep K g F d v → okD n d = true → Dp K H v (toPy d)
  | _, _, _, .non, _ => by simp only [toPy]; exact .non
  | _, _, _, .bl b, _ => by simp only [toPy]; exact .bl b
  | _, _, _, .int b, _ => by simp only [toPy]; exact .int b
  | _, _, _, .str b, _ => by simp only [toPy]; exact .str b
  | n, _, _, .ty b, h => by cases n <;> simp [okD] at h
  | n, _, _, .cls b, h => by cases n <;> simp [okD] at h
  | n, _, _, .obj _ _ _, h => by cases n <;> simp [okD] at h
  | n, _, _, .tup q r, h => by
    cases n with
    | zero => simp [okD] at h
    | succ n => simp only [toPy]; exact .tup (sub_t s q) (Reps.dp s r (by simpa [okD] using h))
  | n, _, _, .lst q r, h => by
    cases n with
    | zero => simp [okD] at h
    | succ n => simp only [toPy]; exact .lst (SqL.of (s _ _ q)) (Reps.dp s r (by simpa [okD] using h))
  | n, _, _, .scr q r, h => by
    cases n with
    | zero => simp [okD] at h
    | succ n => simp only [toPy]; exact .lst (sub_l s q) (Reps.dp s r (by simpa [okD] using h))
theorem Reps.dp (s : Sub F H) : ∀ {n : Nat} {ds : List D} {vs : List V}, Reps K g F ds vs → okDs n ds = true → DpAll K H vs (toPys ds)
  | _, _, _, .nil, _ => by simp only [toPys]; exact .nil
  | n, _, _, .cons r t, h => by
    simp only [okDs, Bool.and_eq_true] at h
    simp only [toPys]; exact .cons (Rep.dp s r h.1) (Reps.dp s t h.2)
end
end

/-! ### deep view: cells in cells, for answers that share nothing -/
def allS : List (Option D) → Option (List D)
  | [] => some []
  | some x :: r => (allS r).map (x :: ·)
  | none :: _ => none
def deepV (M : List (Option Cell)) : Nat → W → Option D
  | _, .d x => some x
  | 0, .loc _ => none
  | n + 1, .loc i => match M[i]? with
    | some (some (.lst ws)) => (allS (ws.map (deepV M n))).map .lst
    | _ => none
section
variable (K : PySem.W.Frag) (g : Nat → Addr) (F H : Hp)
mutual
inductive RepE : D → V → Prop
  | rep {d : D} {v : V} : Rep K g F d v → RepE d v
  | lst {a : Addr} {ds : List D} {vs : List V} : H a = some (.lst vs) → RepEs ds vs → RepE (.lst ds) (.ref a)
inductive RepEs : List D → List V → Prop
  | nil : RepEs [] []
  | cons {d : D} {v : V} {ds : List D} {vs : List V} : RepE d v → RepEs ds vs → RepEs (d :: ds) (v :: vs)
end
end
section
variable {K : PySem.W.Frag} {g : Nat → Addr} {R F H : Hp} {L : List Addr} {M : List (Option Cell)}
theorem Rel.deep (rel : Rel K g R F L M H) : ∀ (n : Nat) {w : W} {v : V} {x : D}, RepW K g F L w v → deepV M n w = some x → RepE K g F H x v
  | _, .d y, v, x, r, e => by simp only [deepV] at e; cases e; exact .rep r
  | 0, .loc i, v, x, r, e => by simp [deepV] at e
  | n + 1, .loc i, v, x, r, e => by
    obtain ⟨a, ha, rfl⟩ := r
    simp only [deepV] at e
    split at e
    · rename_i ws hc
      obtain ⟨b, hb, f0, r0, vs, hv, rs⟩ := rel.ce i _ hc
      rw [ha] at hb; cases hb
      obtain ⟨ds, e1, rfl⟩ := Option.map_eq_some_iff.mp e
      refine .lst hv ?_
      clear hc hv e
      induction rs generalizing ds with
      | nil => simp only [List.map_nil, allS] at e1; cases e1; exact .nil
      | @cons w v ws vs q t ih =>
        simp only [List.map_cons] at e1
        cases ed : deepV M n w with
        | none => rw [ed] at e1; simp [allS] at e1
        | some d =>
          rw [ed] at e1
          simp only [allS] at e1
          obtain ⟨es, e2, rfl⟩ := Option.map_eq_some_iff.mp e1
          exact .cons (Rel.deep rel n q ed) (ih _ e2)
    · cases e
mutual
theorem RepE.dp (s : Sub F H) : ∀ {n : Nat} {d : D} {v : V}, RepE K g F H d v → okD n d = true → Dp K H v (toPy d)
  | _, _, _, .rep r, h => r.dp s h
  | n, _, _, .lst q r, h => by
    cases n with
    | zero => simp [okD] at h
    | succ n => simp only [toPy]; exact .lst (SqL.of q) (RepEs.dp s r (by simpa [okD] using h))
theorem RepEs.dp (s : Sub F H) : ∀ {n : Nat} {ds : List D} {vs : List V}, RepEs K g F H ds vs → okDs n ds = true → DpAll K H vs (toPys ds)
  | _, _, _, .nil, _ => by simp only [toPys]; exact .nil
  | n, _, _, .cons r t, h => by
    simp only [okDs, Bool.and_eq_true] at h
    simp only [toPys]; exact .cons (RepE.dp s r h.1) (RepEs.dp s t h.2)
end
end
/-- an operation whose answer is plain and shares nothing -/
def rE (K : PySem.W.Frag) (G : Cl) (opf : D → D → Option Bool) : R2 := fun x y H Q => ∃ R F L M a b r, Rel K G.at_ R F L M H ∧ RepE K G.at_ F H a x ∧ RepE K G.at_ F H b y ∧ opf a b = some r ∧ Q (.bl r) H
def eOpE (opf : D → D → Option Bool) (f h : Ev Res) : Ev Res := (evW f).bind fun w => (evW h).bind fun u => fun st => match deepV st.M 3 w, deepV st.M 3 u with
  | some a, some b => match opf a b with
    | some r => some (.ok (.d (.bl r)), st)
    | none => none
  | _, _ => none
section
variable {X : Cx} {G : Cl} {Wx : WX} {opf : D → D → Option Bool} {f h : Ev Res} {a b : Expr} {pos : Pos} {op : CmpOp}
theorem bel_opE (bf : Bel f) (bh : Bel h) : Bel (eOpE opf f h) := (bel_evW bf).bind fun w => (bel_evW bh).bind fun u => .same fun st o st' e => by
  split at e
  · split at e <;> cases e; rfl
  · cases e
theorem tOpE_of {K : PySem.W.Frag} {σ : L2.St} {H : Hp} {Q : VK} (t : tE K G Wx (eOpE opf f h) σ H Q) : tOp (rE K G opf) (tE K G Wx f) (tE K G Wx h) σ H Q := by
  obtain ⟨R, F, L, st, ok, o⟩ := t
  refine tE_W ok (OutP.bind (f := evW f) o fun w st1 F1 L1 H1 x1 ok1 o1 v rv => ?_)
  refine tE_W ok1 (OutP.bind (f := evW h) o1 fun u st2 F2 L2 H2 x2 ok2 o2 v2 ru => ?_)
  cases e1 : deepV st2.M 3 w with
  | none => rw [e1] at o2; exact o2.elim
  | some a =>
    cases e2 : deepV st2.M 3 u with
    | none => rw [e1, e2] at o2; exact o2.elim
    | some b =>
      rw [e1, e2] at o2
      dsimp only at o2
      cases er : opf a b with
      | none => rw [er] at o2; exact o2.elim
      | some r =>
        rw [er] at o2
        exact ⟨R, F2, L2, st2.M, a, b, r, ok2.rel, ok2.rel.deep 3 (rv.ext x2) e1, ok2.rel.deep 3 ru e2, er, o2 F2 L2 H2 (.refl _ _) ok2 _ (.bl _)⟩
theorem se_cmpE (ho : OpR X (compareOp op) (rE X.K G opf)) (ha : SE X G Wx a f) (hb : SE X G Wx b h)
    (hm : behindInMarks op b = false := by first | exact nomark _ | rfl) : SE X G Wx (.Compare a [op] [b] pos) (eOpE opf f h) :=
  ⟨PE_imp (pe_cmpR ho ha.pe hb.pe hm) fun _ _ _ t => tOpE_of t, bel_opE ha.bel hb.bel⟩
def eOpT (opf : D → D → Option Bool) (f h : Ev Res) : Ev Bool := (evW f).bind fun w => (evW h).bind fun u => fun st => match deepV st.M 3 w, deepV st.M 3 u with
  | some a, some b => match opf a b with
    | some r => some (.ok r, st)
    | none => none
  | _, _ => none
theorem st_cmpE (ho : OpR X (compareOp op) (rE X.K G opf)) (ha : SE X G Wx a f) (hb : SE X G Wx b h)
    (hm : behindInMarks op b = false := by first | exact nomark _ | rfl) : ST X G Wx (.Compare a [op] [b] pos) (eOpT opf f h) :=
  ⟨PT_imp (pt_cmpR ho ha.pe hb.pe hm) fun σ H Q t => by
    obtain ⟨R, F, L, st, ok, o⟩ := t
    refine tE_W ok (OutP.bind (f := evW f) o fun w st1 F1 L1 H1 x1 ok1 o1 v rv => ?_)
    refine tE_W ok1 (OutP.bind (f := evW h) o1 fun u st2 F2 L2 H2 x2 ok2 o2 v2 ru => ?_)
    cases e1 : deepV st2.M 3 w with
    | none => rw [e1] at o2; exact o2.elim
    | some a =>
      cases e2 : deepV st2.M 3 u with
      | none => rw [e1, e2] at o2; exact o2.elim
      | some b =>
        rw [e1, e2] at o2
        dsimp only at o2
        cases er : opf a b with
        | none => rw [er] at o2; exact o2.elim
        | some r =>
          rw [er] at o2
          exact ⟨R, F2, L2, st2.M, a, b, r, ok2.rel, ok2.rel.deep 3 (rv.ext x2) e1, ok2.rel.deep 3 ru e2, er, r, rfl, o2 F2 L2 H2 (.refl _ _) ok2⟩,
   (bel_evW ha.bel).bind fun w => (bel_evW hb.bel).bind fun u => .same fun st o st' e => by
    split at e
    · split at e <;> cases e; rfl
    · cases e⟩
end

/-! ### == != in, not in, is -/
section
variable {X : Cx} {G : Cl}
def opEq (neg : Bool) (a b : D) : Option Bool := if okD 60 a && okD 60 b then some (xor neg (dEq a b)) else none
theorem or_eq (hu : X.A.units + 64 < cLine) : OpR X (compareOp .Eq) (rE X.K G (opEq false)) := by
  intro pins s σ H x y v u Q I rx ry ⟨R, F, L, M, a, b, r, rel, ra, rb, e, q⟩
  unfold opEq at e
  split at e
  · rename_i h
    cases e
    rw [Bool.and_eq_true] at h
    refine op_eqD hu pins s σ H x y v u Q I rx ry ⟨_, _, ra.dp rel.fh h.1, rb.dp rel.fh h.2, shaped_ok (by decide) h.1, shaped_ok (by decide) h.2, ?_⟩
    rw [eqv_toPy _ _ _ _ h.1 h.2]
    simpa using q
  · cases e
theorem or_ne (hu : X.A.units + 64 < cLine) : OpR X (compareOp .NotEq) (rE X.K G (opEq true)) := by
  intro pins s σ H x y v u Q I rx ry ⟨R, F, L, M, a, b, r, rel, ra, rb, e, q⟩
  unfold opEq at e
  split at e
  · rename_i h
    cases e
    rw [Bool.and_eq_true] at h
    refine op_neD hu pins s σ H x y v u Q I rx ry ⟨_, _, ra.dp rel.fh h.1, rb.dp rel.fh h.2, shaped_ok (by decide) h.1, shaped_ok (by decide) h.2, ?_⟩
    rw [eqv_toPy _ _ _ _ h.1 h.2]
    simpa using q
  · cases e
/-- one text in another: one sign is looked for by itself -/
def inStr (x y : Str) : Bool := !(Builtin.Str.occurrences y x 0 y.length 1).isEmpty
theorem inStr_sign (c : Nat) (z : Str) : inStr ⟨#[c]⟩ z = decide (c ∈ z.cps.toList) := (PySem.StrLaws.found_one z c)
def opIn (neg : Bool) (a b : D) : Option Bool := match a, b with
  | .str x, .str y => some (xor neg (inStr x y))
  | _, .lst ys => if okD 60 a && okDs 60 ys then some (xor neg (ys.any fun y => dEq y a)) else none
  | _, .tup ys => if okD 60 a && okDs 60 ys then some (xor neg (ys.any fun y => dEq y a)) else none
  | _, _ => none
theorem toPys_map : ∀ ys : List D, toPys ys = ys.map toPy
  | [] => by simp [toPys]
  | y :: ys => by simp [toPys, toPys_map ys]
theorem any_toPy {a : D} {n m : Nat} (ha : okD n a = true) : ∀ ys : List D, okDs m ys = true → ((toPys ys).any fun z => PyData.eqv z (toPy a)) = ys.any fun y => dEq y a
  | [], _ => by simp [toPys]
  | y :: ys, h => by
    simp only [okDs, Bool.and_eq_true] at h
    simp only [toPys, List.any_cons]
    rw [eqv_toPy _ _ _ _ h.1 ha, any_toPy ha ys h.2]
theorem shaped_lst {n : Nat} {ys : List D} (hn : n < 64) (h : okDs n ys = true) : SeqAt.shaped (.list (toPys ys)) = true := by
  have := shaped_ok (n := n + 1) (a := .lst ys) hn (by simpa [okD] using h)
  simpa only [toPy] using this
theorem RepE.lst_inv {K : PySem.W.Frag} {g : Nat → Addr} {F H : Hp} {ys : List D} {y : V} {n : Nat} (s : Sub F H) (r : RepE K g F H (.lst ys) y) (h : okDs n ys = true) : Dp K H y (.list (toPys ys)) := by
  have := r.dp s (n := n + 1) (by simpa [okD] using h)
  simpa only [toPy] using this
theorem RepE.tup_inv {K : PySem.W.Frag} {g : Nat → Addr} {F H : Hp} {ys : List D} {y : V} {n : Nat} (s : Sub F H) (r : RepE K g F H (.tup ys) y) (h : okDs n ys = true) : Dp K H y (.tuple (toPys ys)) := by
  have := r.dp s (n := n + 1) (by simpa [okD] using h)
  simpa only [toPy] using this
theorem or_in (hu : X.A.units + 65 < cLine) : OpR X (compareOp .In) (rE X.K G (opIn false)) := by
  intro pins s σ H x y v u Q I rx ry ⟨R, F, L, M, a, b, r, rel, ra, rb, e, q⟩
  unfold opIn at e
  split at e
  · rename_i i j
    cases e
    cases ra with
    | rep ra => cases ra; cases rb with
      | rep rb => cases rb; exact op_in_str pins s σ H _ _ v u Q I rx ry ⟨i, j, rfl, rfl, by simpa [inStr] using q⟩
  · rename_i ys _
    split at e
    · rename_i h
      cases e
      rw [Bool.and_eq_true] at h
      refine op_inD hu pins s σ H x y v u Q I rx ry ⟨_, _, ra.dp rel.fh h.1, rb.lst_inv rel.fh h.2, shaped_ok (by decide) h.1, shaped_lst (by decide) h.2, ?_⟩
      rw [any_toPy h.1 _ h.2]
      simpa using q
    · cases e
  · split at e
    · rename_i h
      cases e
      rw [Bool.and_eq_true] at h
      obtain ⟨as, r1⟩ := Dp.reads I _ x v (ra.dp rel.fh h.1) rx
      obtain ⟨bs, r2⟩ := Dp.reads I _ y u (rb.tup_inv rel.fh h.2) ry
      have hl := lays_ok _ _ h.2
      have hd := lay_ok _ _ h.1
      refine SeqAt.in_tuple_reads r2 r1 hl.1 hd.1 ?_ ⟨.bl _, H, I, rfl, ?_⟩
      · have h60 := Nat.le_trans (Nat.min_le_left _ ((toPy a).depth)) hl.2
        omega
      · rw [any_toPy h.1 _ h.2]
        simpa using q
    · cases e
  · cases e
theorem or_notIn (hu : X.A.units + 65 < cLine) : OpR X (compareOp .NotIn) (rE X.K G (opIn true)) := by
  intro pins s σ H x y v u Q I rx ry ⟨R, F, L, M, a, b, r, rel, ra, rb, e, q⟩
  unfold opIn at e
  split at e
  · rename_i i j
    cases e
    cases ra with
    | rep ra => cases ra; cases rb with
      | rep rb => cases rb; exact L2.op_notIn_str pins s σ H _ _ v u Q I rx ry ⟨i, j, rfl, rfl, by simpa [inStr] using q⟩
  · rename_i ys _
    split at e
    · rename_i h
      cases e
      rw [Bool.and_eq_true] at h
      refine op_notInD hu pins s σ H x y v u Q I rx ry ⟨_, _, ra.dp rel.fh h.1, rb.lst_inv rel.fh h.2, shaped_ok (by decide) h.1, shaped_lst (by decide) h.2, ?_⟩
      rw [any_toPy h.1 _ h.2]
      simpa using q
    · cases e
  · split at e
    · rename_i h
      cases e
      rw [Bool.and_eq_true] at h
      obtain ⟨as, r1⟩ := Dp.reads I _ x v (ra.dp rel.fh h.1) rx
      obtain ⟨bs, r2⟩ := Dp.reads I _ y u (rb.tup_inv rel.fh h.2) ry
      have hl := lays_ok _ _ h.2
      have hd := lay_ok _ _ h.1
      refine SeqAt.notIn_tuple_reads r2 r1 hl.1 hd.1 ?_ ⟨.bl _, H, I, rfl, ?_⟩
      · have h60 := Nat.le_trans (Nat.min_le_left _ ((toPy a).depth)) hl.2
        omega
      · rw [any_toPy h.1 _ h.2]
        simpa using q
    · cases e
  · cases e
end
end Pm

set_option maxHeartbeats 2000000
/-! Q8: arithmetic, built-in functions -/
namespace Pm
open PySem PyProof.Rows L2

section
variable {X : Cx} {G : Cl}
/-! ### operators -/
def opAdd : D → D → Option Res
  | .int i, .int j => some (.d (.int (i + j)))
  | .str x, .str y => if x.length + y.length ≤ sizeLine then some (.d (.str (x ++ y))) else none
  | .lst xs, .lst ys => if xs.length + ys.length ≤ sizeLine then some (.new (.lst ((xs ++ ys).map .d))) else none
  | .tup xs, .tup ys => if xs.length + ys.length ≤ sizeLine then some (.d (.tup (xs ++ ys))) else none
  | _, _ => none
theorem RepV.lst_inv {K : PySem.W.Frag} {g : Nat → Addr} {F H : Hp} {ds : List D} {v : V} (s : Sub F H) (r : RepV K g F H (.lst ds) v) : ∃ a vs, v = .ref a ∧ H a = some (.lst vs) ∧ Reps K g F ds vs := by
  cases r with
  | rep r => cases r with
    | lst h q => exact ⟨_, _, rfl, s _ _ h, q⟩
  | lst h q => exact ⟨_, _, rfl, h, q⟩
theorem RepV.tup_inv {K : PySem.W.Frag} {g : Nat → Addr} {F H : Hp} {ds : List D} {v : V} (s : Sub F H) (r : RepV K g F H (.tup ds) v) : ∃ a vs, v = .ref a ∧ SqT K F a vs ∧ Reps K g F ds vs := by
  cases r with
  | rep r => cases r with
    | tup h q => exact ⟨_, _, rfl, h, q⟩
theorem RepV.int_inv {K : PySem.W.Frag} {g : Nat → Addr} {F H : Hp} {i : Int} {v : V} (r : RepV K g F H (.int i) v) : v = .int i := by cases r with | rep r => cases r; rfl
theorem RepV.bl_inv {K : PySem.W.Frag} {g : Nat → Addr} {F H : Hp} {i : Bool} {v : V} (r : RepV K g F H (.bl i) v) : v = .bl i := by cases r with | rep r => cases r; rfl
theorem RepV.str_inv {K : PySem.W.Frag} {g : Nat → Addr} {F H : Hp} {i : Str} {v : V} (r : RepV K g F H (.str i) v) : v = .str i := by cases r with | rep r => cases r; rfl
theorem or_add : OpR X (binaryOp .Add) (rD X.K G opAdd) := by
  intro pins s σ H x y v u Q I rx ry ⟨R, F, L, M, a, b, r, rel, ra, rb, e, q⟩
  unfold opAdd at e
  split at e
  · cases e
    obtain rfl := ra.int_inv
    obtain rfl := rb.int_inv
    exact op_add pins s σ H _ _ v u Q I rx ry ⟨_, _, rfl, rfl, q _ F H (.refl _) rel (.int _)⟩
  · split at e
    · rename_i h
      cases e
      obtain rfl := ra.str_inv
      obtain rfl := rb.str_inv
      exact op_add_str pins s σ H _ _ v u Q I rx ry ⟨_, _, rfl, rfl, h, q _ F H (.refl _) rel (.str _)⟩
    · cases e
  · split at e
    · rename_i h
      cases e
      obtain ⟨a, vs, rfl, ha, r1⟩ := ra.lst_inv rel.fh
      obtain ⟨b, us, rfl, hb, r2⟩ := rb.lst_inv rel.fh
      refine op_cat pins s σ H _ _ v u Q I rx ry ⟨a, b, vs, us, rfl, rfl, ha, hb, by rw [← r1.length, ← r2.length]; exact h, fun p hp => ?_⟩
      obtain ⟨h1, h2⟩ := rel.newLst (G := G) hp (r1.append r2).toW
      exact q _ F _ (.refl _) h1 h2
    · cases e
  · split at e
    · rename_i h
      cases e
      obtain ⟨a, vs, rfl, ha, r1⟩ := ra.tup_inv rel.fh
      obtain ⟨b, us, rfl, hb, r2⟩ := rb.tup_inv rel.fh
      refine op_catA pins s σ H _ _ v u Q I rx ry ⟨a, b, vs, us, rfl, rfl, sub_t rel.fh ha, sub_t rel.fh hb, by rw [← r1.length, ← r2.length]; exact h, fun h0 => ?_, fun _ h0 => ?_, fun _ _ p hp => ?_⟩
      · refine q _ F H (.refl _) rel (.tup hb ?_)
        have := r1.append r2
        rw [h0] at this
        exact this
      · refine q _ F H (.refl _) rel (.tup ha ?_)
        have := r1.append r2
        rw [h0, List.append_nil] at this
        exact this
      · obtain ⟨h1, h2, h3⟩ := rel.newTup hp (r1.append r2)
        exact q _ _ _ h1 h2 h3
    · cases e
  · cases e
def opI2 (f : Int → Int → Option D) : D → D → Option Res
  | .int i, .int j => (f i j).map .d
  | _, _ => none
theorem or_I2 {op : Value → Value → Sem Value} {f : Int → Int → Option D} {C : Int → Int → Prop} {h : Int → Int → V} (ho : OpR X op (rI C h)) (k : ∀ i j d, f i j = some d → C i j ∧ ∀ K g F, Rep K g F d (h i j)) : OpR X op (rD X.K G (opI2 f)) := by
  intro pins s σ H x y v u Q I rx ry ⟨R, F, L, M, a, b, r, rel, ra, rb, e, q⟩
  unfold opI2 at e
  split at e
  · rename_i i j
    obtain ⟨d, e1, rfl⟩ := Option.map_eq_some_iff.mp e
    obtain rfl := ra.int_inv
    obtain rfl := rb.int_inv
    obtain ⟨h1, h2⟩ := k i j d e1
    exact ho pins s σ H _ _ v u Q I rx ry ⟨i, j, rfl, rfl, h1, q _ F H (.refl _) rel (h2 _ _ _)⟩
  · cases e
theorem rI_of {op : Value → Value → Sem Value} {h : Int → Int → V} (ho : OpR X op (rI0 h)) : OpR X op (rI (fun _ _ => True) h) := fun pins s σ H x y v u Q I rx ry ⟨i, j, e1, e2, _, q⟩ => ho pins s σ H x y v u Q I rx ry ⟨i, j, e1, e2, q⟩
def fSub (i j : Int) : Option D := some (.int (i - j))
theorem or_sub : OpR X (binaryOp .Sub) (rD X.K G (opI2 fSub)) := or_I2 (rI_of op_sub) fun i j d e => by cases e; exact ⟨trivial, fun _ _ _ => .int _⟩
def fMul (i j : Int) : Option D := if i.natAbs.log2 + j.natAbs.log2 < 1000000 then some (.int (i * j)) else none
theorem or_mul : OpR X (binaryOp .Mult) (rD X.K G (opI2 fMul)) := or_I2 op_mulW fun i j d e => by
  unfold fMul at e
  split at e
  · rename_i h; cases e; exact ⟨h, fun _ _ _ => .int _⟩
  · cases e
def fDiv (i j : Int) : Option D := if 0 < j ∧ j.natAbs.log2 < 9000 then some (.int (i / j)) else none
theorem or_fdiv : OpR X (binaryOp .FloorDiv) (rD X.K G (opI2 fDiv)) := or_I2 op_fdivW fun i j d e => by
  unfold fDiv at e
  split at e
  · rename_i h; cases e; exact ⟨h, fun _ _ _ => .int _⟩
  · cases e
def fMod (i j : Int) : Option D := if 0 < j then some (.int (i % j)) else none
theorem or_mod : OpR X (binaryOp .Mod) (rD X.K G (opI2 fMod)) := or_I2 op_mod fun i j d e => by
  unfold fMod at e
  split at e
  · rename_i h; cases e; exact ⟨h, fun _ _ _ => .int _⟩
  · cases e
def fPow (i j : Int) : Option D := if 0 ≤ j ∧ j ≤ 1000000 ∧ i.natAbs < 2 ^ 64 then some (.int (i ^ j.toNat)) else none
theorem or_pow : OpR X (binaryOp .Pow) (rD X.K G (opI2 fPow)) := or_I2 op_pow fun i j d e => by
  unfold fPow at e
  split at e
  · rename_i h; cases e; exact ⟨h, fun _ _ _ => .int _⟩
  · cases e
/-- order of two ints -/
def ordI (f : Int → Int → Bool) : D → D → Option Bool
  | .int i, .int j => some (f i j)
  | _, _ => none
theorem or_ord {op : Value → Value → Sem Value} {f : Int → Int → Bool} (ho : OpR X op (rI0 fun i j => .bl (f i j))) : OpR X op (rE X.K G (ordI f)) := by
  intro pins s σ H x y v u Q I rx ry ⟨R, F, L, M, a, b, r, rel, ra, rb, e, q⟩
  unfold ordI at e
  split at e
  · cases e
    cases ra with
    | rep ra => cases ra; cases rb with
      | rep rb => cases rb; exact ho pins s σ H _ _ v u Q I rx ry ⟨_, _, rfl, rfl, q⟩
  · cases e
def opLt := ordI fun i j => decide (i < j)
def opLe := ordI fun i j => decide (i ≤ j)
def opGt := ordI fun i j => decide (j < i)
def opGe := ordI fun i j => decide (j ≤ i)
theorem or_lt : OpR X (compareOp .Lt) (rE X.K G opLt) := or_ord op_lt
theorem or_le : OpR X (compareOp .LtE) (rE X.K G opLe) := or_ord op_le
theorem or_gt : OpR X (compareOp .Gt) (rE X.K G opGt) := or_ord op_gt
theorem or_ge : OpR X (compareOp .GtE) (rE X.K G opGe) := or_ord op_ge
/-- is None -/
def nonD : D → Option Bool
  | .non => some true
  | .ty _ => none
  | _ => some false
theorem nonD_ok {K : PySem.W.Frag} {g : Nat → Addr} {F H : Hp} {d : D} {v : V} {c : Bool} (r : RepE K g F H d v) (e : nonD d = some c) : decide (v = .non) = c := by
  cases r with
  | rep r => cases r <;> simp only [nonD] at e <;> cases e <;> simp
  | lst _ _ => simp only [nonD] at e; cases e; simp
def opIs (neg : Bool) (a b : D) : Option Bool := match b with
  | .non => (nonD a).map (xor neg)
  | .bl b => match a with
    | .bl a => if neg then none else some (a == b)
    | _ => none
  | _ => none
theorem or_is : OpR X (compareOp .Is) (rE X.K G (opIs false)) := by
  intro pins s σ H x y v u Q I rx ry ⟨R, F, L, M, a, b, r, rel, ra, rb, e, q⟩
  unfold opIs at e
  split at e
  · obtain ⟨c, e1, rfl⟩ := Option.map_eq_some_iff.mp e
    cases rb with
    | rep rb =>
      cases rb
      exact op_isN pins s σ H _ _ v u Q I rx ry ⟨rfl, by rw [nonD_ok ra e1]; simpa using q⟩
  · split at e
    · simp only [Bool.false_eq_true, if_false] at e
      cases e
      cases rb with
      | rep rb => cases rb; cases ra with
        | rep ra => cases ra; exact op_isBl pins s σ H _ _ v u Q I rx ry ⟨_, _, rfl, rfl, q⟩
    · cases e
  · cases e
theorem or_isnot : OpR X (compareOp .IsNot) (rE X.K G (opIs true)) := by
  intro pins s σ H x y v u Q I rx ry ⟨R, F, L, M, a, b, r, rel, ra, rb, e, q⟩
  unfold opIs at e
  split at e
  · obtain ⟨c, e1, rfl⟩ := Option.map_eq_some_iff.mp e
    cases rb with
    | rep rb =>
      cases rb
      exact op_notN pins s σ H _ _ v u Q I rx ry ⟨rfl, by rw [nonD_ok ra e1]; simpa using q⟩
  · split at e
    · simp at e
    · cases e
  · cases e

/-! ### built-in functions -/
abbrev Bf := List (Option Cell) → List W → Option Res
def eBf (bf : Bf) (fa : Ev (List W)) : Ev Res := fa.bind fun ws => fun st => Ev.lift (bf st.M ws) st
def rBf (K : PySem.W.Frag) (G : Cl) (bf : Bf) : List V → Hp → VK → Prop := fun xs H Q => ∃ R F L M ws r, Rel K G.at_ R F L M H ∧ RepWs K G.at_ F L ws xs ∧ bf M ws = some r ∧ ∀ v F' H', Sub F F' → Rel K G.at_ R F' L M H' → RepR K G R F' L M H' r v → Q v H'
variable {Wx : WX} {x : Str} {p pos : Pos} {e : Expr} {es : List Expr} {fa : Ev (List W)} {bf : Bf} {id T : String}
theorem bel_bf (ba : Bel fa) : Bel (eBf bf fa) := ba.bind fun ws => .same fun st o st' e => by
  unfold Ev.lift at e
  split at e <;> cases e; rfl
theorem tCB_of {K : PySem.W.Frag} {σ : L2.St} {H : Hp} {Q : VK} (t : tE K G Wx (eBf bf fa) σ H Q) : tCB (rBf K G bf) (tA K G Wx fa) σ H Q := by
  obtain ⟨R, F, L, st, ok, o⟩ := t
  refine ⟨R, F, L, st, ok, OutP.bind (f := fa) o fun ws st1 F1 L1 H1 x1 ok1 o1 vs rv => ?_⟩
  obtain ⟨r, er, o2⟩ := OutP.lift o1
  exact ⟨R, F1, L1, st1.M, ws, r, ok1.rel, rv, er, fun v F' H' s rel rr => o2 F' L1 H' (.frz s) (ok1.with s rel) v rr⟩
theorem se_bf (hc : CallR X (.builtin id) (rBf X.K G bf)) (hg : Gl X x) (hm : X.mg x = none) (hv : bootBuiltins x = some (.builtin id)) (ha : SA X G Wx (e :: es) fa) (hn : x ≠ "__name__" := by decide) (hdb : (x == ("__debug__" : Str)) = false := by decide)
    (he : starEach (e :: es) X.env = (false, eval e X.env) :: starEach es X.env := by rfl) (hpl : (backTo pos (starEach es X.env)).any (·.1) = false := by rfl) : SE X G Wx (.Call (.Name x p) (e :: es) [] pos) (eBf bf fa) :=
  ⟨PE_imp (pe_callB hc hg hm hv ha.pa hn hdb he hpl) fun _ _ _ t => tCB_of t, bel_bf ha.bel⟩
theorem se_bty (hc : CallR X (.type T) (rBf X.K G bf)) (hg : Gl X x) (hm : X.mg x = none) (hv : bootBuiltins x = some (.type T)) (ha : SA X G Wx (e :: es) fa) (hn : x ≠ "__name__" := by decide) (hdb : (x == ("__debug__" : Str)) = false := by decide)
    (he : starEach (e :: es) X.env = (false, eval e X.env) :: starEach es X.env := by rfl) (hpl : (backTo pos (starEach es X.env)).any (·.1) = false := by rfl) : SE X G Wx (.Call (.Name x p) (e :: es) [] pos) (eBf bf fa) :=
  ⟨PE_imp (pe_callTy hc hg hm hv ha.pa hn hdb he hpl) fun _ _ _ t => tCB_of t, bel_bf ha.bel⟩
/-- what a list or tuple holds -/
def seqD : D → Option (List D)
  | .tup xs => some xs
  | .lst xs => some xs
  | .scr xs => some xs
  | _ => none
theorem seqV {K : PySem.W.Frag} {g : Nat → Addr} {F H : Hp} {d : D} {ds : List D} {v : V} (s : Sub F H) (r : RepV K g F H d v) (e : seqD d = some ds) :
    ∃ a vs, v = .ref a ∧ (SqL K H a vs ∨ SqT K H a vs) ∧ Reps K g F ds vs := by
  cases r with
  | rep r =>
    cases r <;> simp only [seqD] at e <;> cases e
    · rename_i q t; exact ⟨_, _, rfl, .inr (sub_t s q), t⟩
    · rename_i q t; exact ⟨_, _, rfl, .inl (SqL.of (s _ _ q)), t⟩
    · rename_i q t; exact ⟨_, _, rfl, .inl (sub_l s q), t⟩
  | lst h t => simp only [seqD] at e; cases e; exact ⟨_, _, rfl, .inl (SqL.of h), t⟩
  | obj _ _ _ => simp [seqD] at e
/-- one argument -/
def b1 (f : D → Option Res) : Bf := fun M ws => match ws with
  | [w] => (view M w).bind f
  | _ => none
theorem cr_b1 {f : D → Option Res} {fv : Value} {r : List V → Hp → VK → Prop} (hc : CallR X fv r) (k : ∀ R F L M H d v res Q, Rel X.K G.at_ R F L M H → RepV X.K G.at_ F H d v → f d = some res →
    (∀ z F' H', Sub F F' → Rel X.K G.at_ R F' L M H' → RepR X.K G R F' L M H' res z → Q z H') → r [v] H Q) : CallR X fv (rBf X.K G (b1 f)) := by
  intro pins s σ H xs us Q I rx ⟨R, F, L, M, ws, res, rel, rw', e, q⟩
  unfold b1 at e
  split at e
  · cases rw' with
    | cons r1 rn =>
      cases rn
      obtain ⟨d, e1, e2⟩ := Option.bind_eq_some_iff.mp e
      exact hc pins s σ H _ us Q I rx (k R F L M H d _ res Q rel (rel.view r1 e1) e2 q)
  · cases e
def dLen : D → Option Res
  | .str x => if x.length ≤ sizeLine then some (.d (.int x.length)) else none
  | d => (seqD d).map fun xs => .d (.int xs.length)
def bLen : Bf := fun M ws => match ws with
  | [.loc i] => match M[i]? with
    | some (some (.lst us)) => some (.d (.int us.length))
    | _ => none
  | [.d x] => dLen x
  | _ => none
theorem cr_len : CallR X (.builtin "len") (rBf X.K G bLen) := by
  intro pins s σ H xs us Q I rx ⟨R, F, L, M, ws, res, rel, rw', e, q⟩
  unfold bLen at e
  split at e
  · rename_i i
    split at e
    · rename_i zs hc
      cases e
      cases rw' with
      | cons r1 rn =>
        cases rn
        obtain ⟨a, ha, rfl⟩ := r1
        obtain ⟨b, hb, _, _, vs, hv, rs⟩ := rel.ce i _ hc
        rw [ha] at hb; cases hb
        refine call_len pins s σ H _ us Q I rx ⟨_, zs.length, rfl, .inl ⟨vs, SqL.of hv, rs.length⟩, q _ F H (.refl _) rel (.int _)⟩
    · cases e
  · rename_i d
    cases rw' with
    | cons r1 rn =>
      cases rn
      unfold dLen at e
      split at e
      · split at e
        · rename_i h
          cases e
          cases r1
          exact call_len pins s σ H _ us Q I rx ⟨_, _, rfl, ⟨h, rfl⟩, q _ F H (.refl _) rel (.int _)⟩
        · cases e
      · obtain ⟨ds, e1, rfl⟩ := Option.map_eq_some_iff.mp e
        obtain ⟨a, vs, rfl, hs, rs⟩ := seqV rel.fh (.rep r1) e1
        refine call_len pins s σ H _ us Q I rx ⟨_, ds.length, rfl, ?_, q _ F H (.refl _) rel (.int _)⟩
        rcases hs with h | h
        · exact .inl ⟨vs, h, rs.length⟩
        · exact .inr ⟨vs, h, rs.length⟩
  · cases e
def dAbs : D → Option Res
  | .int i => some (.d (.int (if i < 0 then -i else i)))
  | _ => none
theorem cr_abs : CallR X (.builtin "abs") (rBf X.K G (b1 dAbs)) := cr_b1 call_abs fun R F L M H d v res Q rel r e q => by
  unfold dAbs at e
  split at e
  · cases e; obtain rfl := r.int_inv; exact ⟨_, rfl, q _ F H (.refl _) rel (.int _)⟩
  · cases e
def dInt : D → Option Res
  | .int i => some (.d (.int i))
  | .bl b => some (.d (.int (if b then 1 else 0)))
  | _ => none
theorem cr_int : CallR X (.type "int") (rBf X.K G (b1 dInt)) := cr_b1 call_int1 fun R F L M H d v res Q rel r e q => by
  unfold dInt at e
  split at e
  · cases e; obtain rfl := r.int_inv; exact .inl ⟨_, rfl, q _ F H (.refl _) rel (.int _)⟩
  · cases e; obtain rfl := r.bl_inv; exact .inr ⟨_, rfl, q _ F H (.refl _) rel (.int _)⟩
  · cases e
def dBool : D → Option Res
  | .int i => some (.d (.bl (i != 0)))
  | .bl b => some (.d (.bl b))
  | _ => none
theorem cr_bool : CallR X (.type "bool") (rBf X.K G (b1 dBool)) := cr_b1 call_bool1 fun R F L M H d v res Q rel r e q => by
  unfold dBool at e
  split at e
  · cases e; obtain rfl := r.int_inv; exact .inl ⟨_, rfl, q _ F H (.refl _) rel (.bl _)⟩
  · cases e; obtain rfl := r.bl_inv; exact .inr ⟨_, rfl, q _ F H (.refl _) rel (.bl _)⟩
  · cases e
/-- max, min of two ints -/
def b2I (f : Int → Int → Int) : Bf := fun M ws => match ws with
  | [.d (.int i), .d (.int j)] => some (.d (.int (f i j)))
  | _ => none
def iMax (i j : Int) : Int := if j > i then j else i
def iMin (i j : Int) : Int := if j < i then j else i
theorem cr_max2 (hc : X.calm = true) : CallR X (.builtin "max") (rBf X.K G (b2I iMax)) := by
  intro pins s σ H xs us Q I rx ⟨R, F, L, M, ws, res, rel, rw', e, q⟩
  unfold b2I at e
  split at e
  · cases e
    cases rw' with
    | cons r1 rn => cases rn with
      | cons r2 rn =>
        cases rn; cases r1; cases r2
        exact call_max2 hc pins s σ H _ us Q I rx ⟨_, _, rfl, q _ F H (.refl _) rel (.int _)⟩
  · cases e
theorem cr_min2 (hc : X.calm = true) : CallR X (.builtin "min") (rBf X.K G (b2I iMin)) := by
  intro pins s σ H xs us Q I rx ⟨R, F, L, M, ws, res, rel, rw', e, q⟩
  unfold b2I at e
  split at e
  · cases e
    cases rw' with
    | cons r1 rn => cases rn with
      | cons r2 rn =>
        cases rn; cases r1; cases r2
        exact call_min2 hc pins s σ H _ us Q I rx ⟨_, _, rfl, q _ F H (.refl _) rel (.int _)⟩
  · cases e
/-- tuple(x), list(x) -/
def dTup (d : D) : Option Res := (seqD d).map fun xs => .d (.tup xs)
theorem cr_tuple : CallR X (.type "tuple") (rBf X.K G (b1 dTup)) := cr_b1 call_tuple_of fun R F L M H d v res Q rel r e q => by
  obtain ⟨ds, e1, rfl⟩ := Option.map_eq_some_iff.mp e
  have new : ∀ {a vs}, SqL X.K H a vs → Reps X.K G.at_ F ds vs → v = .ref a → ∃ p ys, [v] = [V.ref p] ∧ ((SqL X.K H p ys ∧ ∀ l, H l = none → Q (.ref l) (upd H l (.tup ys))) ∨ (SqT X.K H p ys ∧ Q (.ref p) H)) := fun {a vs} h rs ev => by
    subst ev
    refine ⟨a, vs, rfl, .inl ⟨h, fun l hl => ?_⟩⟩
    obtain ⟨h1, h2, h3⟩ := rel.newTup hl rs
    exact q _ _ _ h1 h2 h3
  cases r with
  | rep r =>
    cases r <;> simp only [seqD] at e1 <;> cases e1
    · rename_i h rs; exact ⟨_, _, rfl, .inr ⟨sub_t rel.fh h, q _ F H (.refl _) rel (.tup h rs)⟩⟩
    · rename_i h rs; exact new (SqL.of (rel.fh _ _ h)) rs rfl
    · rename_i h rs; exact new (sub_l rel.fh h) rs rfl
  | lst h rs => simp only [seqD] at e1; cases e1; exact new (SqL.of h) rs rfl
  | obj _ _ _ => simp [seqD] at e1
def bList : Bf := fun M ws => match ws with
  | [.loc i] => match M[i]? with
    | some (some (.lst us)) => some (.new (.lst us))
    | _ => none
  | [.d x] => (seqD x).map fun xs => .new (.lst (xs.map .d))
  | _ => none
theorem cr_list : CallR X (.type "list") (rBf X.K G bList) := by
  intro pins s σ H xs us Q I rx ⟨R, F, L, M, ws, res, rel, rw', e, q⟩
  unfold bList at e
  split at e
  · rename_i i
    split at e
    · rename_i zs hc
      cases e
      cases rw' with
      | cons r1 rn =>
        cases rn
        obtain ⟨a, ha, rfl⟩ := r1
        obtain ⟨b, hb, _, _, vs, hv, rs⟩ := rel.ce i _ hc
        rw [ha] at hb; cases hb
        refine call_list_of pins s σ H _ us Q I rx ⟨_, vs, rfl, .inl (SqL.of hv), fun l hl => ?_⟩
        obtain ⟨h1, h2⟩ := rel.newLst (G := G) hl rs
        exact q _ F _ (.refl _) h1 h2
    · cases e
  · rename_i d
    cases rw' with
    | cons r1 rn =>
      cases rn
      obtain ⟨ds, e1, rfl⟩ := Option.map_eq_some_iff.mp e
      obtain ⟨a, vs, rfl, hs, rs⟩ := seqV rel.fh (.rep r1) e1
      refine call_list_of pins s σ H _ us Q I rx ⟨_, vs, rfl, hs, fun l hl => ?_⟩
      obtain ⟨h1, h2⟩ := rel.newLst (G := G) hl rs.toW
      exact q _ F _ (.refl _) h1 h2
  · cases e
/-- all, any of a list of truths; sum of ints -/
def blsD : List D → Option (List Bool)
  | [] => some []
  | .bl b :: r => (blsD r).map (b :: ·)
  | _ :: _ => none
def intsD : List D → Option (List Int)
  | [] => some []
  | .int b :: r => (intsD r).map (b :: ·)
  | _ :: _ => none
def strsD : List D → Option (List Str)
  | [] => some []
  | .str b :: r => (strsD r).map (b :: ·)
  | _ :: _ => none
theorem blsD_rep {K : PySem.W.Frag} {g : Nat → Addr} {F : Hp} : ∀ {ds : List D} {vs : List V} {bs : List Bool}, Reps K g F ds vs → blsD ds = some bs → vs = bs.map V.bl
  | [], _, _, .nil, e => by cases e; rfl
  | .bl b :: r, _, bs, .cons q t, e => by
    simp only [blsD] at e
    obtain ⟨cs, e1, rfl⟩ := Option.map_eq_some_iff.mp e
    cases q
    rw [blsD_rep t e1]; rfl
theorem intsD_rep {K : PySem.W.Frag} {g : Nat → Addr} {F : Hp} : ∀ {ds : List D} {vs : List V} {bs : List Int}, Reps K g F ds vs → intsD ds = some bs → vs = bs.map V.int
  | [], _, _, .nil, e => by cases e; rfl
  | .int b :: r, _, bs, .cons q t, e => by
    simp only [intsD] at e
    obtain ⟨cs, e1, rfl⟩ := Option.map_eq_some_iff.mp e
    cases q
    rw [intsD_rep t e1]; rfl
theorem strsD_rep {K : PySem.W.Frag} {g : Nat → Addr} {F : Hp} : ∀ {ds : List D} {vs : List V} {bs : List Str}, Reps K g F ds vs → strsD ds = some bs → vs = bs.map V.str
  | [], _, _, .nil, e => by cases e; rfl
  | .str b :: r, _, bs, .cons q t, e => by
    simp only [strsD] at e
    obtain ⟨cs, e1, rfl⟩ := Option.map_eq_some_iff.mp e
    cases q
    rw [strsD_rep t e1]; rfl
/-- data of a list that is no tuple -/
def lstD : D → Option (List D)
  | .lst xs => some xs
  | .scr xs => some xs
  | _ => none
theorem lstV {K : PySem.W.Frag} {g : Nat → Addr} {F H : Hp} {d : D} {ds : List D} {v : V} (s : Sub F H) (r : RepV K g F H d v) (e : lstD d = some ds) : ∃ a vs, v = .ref a ∧ SqL K H a vs ∧ Reps K g F ds vs := by
  cases r with
  | rep r =>
    cases r <;> simp only [lstD] at e <;> cases e
    · rename_i q t; exact ⟨_, _, rfl, SqL.of (s _ _ q), t⟩
    · rename_i q t; exact ⟨_, _, rfl, sub_l s q, t⟩
  | lst h t => simp only [lstD] at e; cases e; exact ⟨_, _, rfl, SqL.of h, t⟩
  | obj _ _ _ => simp [lstD] at e
def dAll (d : D) : Option Res := (lstD d).bind fun xs => (blsD xs).map fun bs => .d (.bl (bs.all fun b => b))
def dAny (d : D) : Option Res := (lstD d).bind fun xs => (blsD xs).map fun bs => .d (.bl (bs.any fun b => b))
def dSum (d : D) : Option Res := (lstD d).bind fun xs => (intsD xs).map fun ns => .d (.int ns.sum)
theorem cr_all' (hc : X.calm = true) : CallR X (.builtin "all") (rBf X.K G (b1 dAll)) := cr_b1 (L2.cr_all hc) fun R F L M H d v res Q rel r e q => by
  obtain ⟨ds, e1, e2⟩ := Option.bind_eq_some_iff.mp e
  obtain ⟨bs, e3, rfl⟩ := Option.map_eq_some_iff.mp e2
  obtain ⟨a, vs, rfl, h, rs⟩ := lstV rel.fh r e1
  rw [blsD_rep rs e3] at h
  exact ⟨a, bs, rfl, h, q _ F H (.refl _) rel (.bl _)⟩
theorem cr_any' (hc : X.calm = true) : CallR X (.builtin "any") (rBf X.K G (b1 dAny)) := cr_b1 (L2.cr_any hc) fun R F L M H d v res Q rel r e q => by
  obtain ⟨ds, e1, e2⟩ := Option.bind_eq_some_iff.mp e
  obtain ⟨bs, e3, rfl⟩ := Option.map_eq_some_iff.mp e2
  obtain ⟨a, vs, rfl, h, rs⟩ := lstV rel.fh r e1
  rw [blsD_rep rs e3] at h
  exact ⟨a, bs, rfl, h, q _ F H (.refl _) rel (.bl _)⟩
theorem cr_sum' (hc : X.calm = true) : CallR X (.builtin "sum") (rBf X.K G (b1 dSum)) := cr_b1 (L2.cr_sum hc) fun R F L M H d v res Q rel r e q => by
  obtain ⟨ds, e1, e2⟩ := Option.bind_eq_some_iff.mp e
  obtain ⟨bs, e3, rfl⟩ := Option.map_eq_some_iff.mp e2
  obtain ⟨a, vs, rfl, h, rs⟩ := lstV rel.fh r e1
  rw [intsD_rep rs e3] at h
  exact ⟨a, bs, rfl, h, q _ F H (.refl _) rel (.int _)⟩

/-! ### isinstance -/
inductive Tg where
  | ty (n : String) | own (c : Nat)
  deriving DecidableEq
def tyKnown : List String := ["NoneType", "bool", "int", "str", "tuple", "list", "dict"]
def tySub (a b : String) : Bool := a == b || (a == "bool" && b == "int")
theorem tySub_ok : ∀ a ∈ tyKnown, ∀ b ∈ tyKnown.tail, L2.kitB a b = some (tySub a b) := by decide +kernel
def isiT (tab : List (Tg × Tg × Bool)) (t u : Tg) : Option Bool := match t, u with
  | .ty a, .ty b => if a ∈ tyKnown ∧ b ∈ tyKnown.tail then some (tySub a b) else none
  | t, u => (tab.find? fun e => e.1 = t ∧ e.2.1 = u).map (·.2.2)
def tgV (g : Nat → Addr) : Tg → Value
  | .ty n => .type n
  | .own c => .ref (g c)
structure InsT (K : PySem.W.Frag) (C : Addr) : Prop where
  cl : Cls K C
  ha : PySem.W.findIn K (.ref C) "__class__" = some (some (.builtin "object.__class__"))
  hn : PySem.W.specialIn K (.builtin "object.__class__") "__get__" = some (some (.builtin "getset_descriptor.__get__"))
  htk : PySem.W.takesIn K (.builtin "object.__class__") = some true
  hm : PySem.W.mroIn K C (.type "object") = some true
/-- the table's answers, the classes' instances -/
structure IsiOk (K : PySem.W.Frag) (g : Nat → Addr) (tab : List (Tg × Tg × Bool)) : Prop where
  ans : ∀ e ∈ tab, PySem.W.kitOne K (tgV g e.1) (tgV g e.2.1) = some e.2.2
  ins : ∀ e ∈ tab, ∀ c, e.1 = .own c → InsT K (g c)
theorem isiT_ok {K : PySem.W.Frag} {g : Nat → Addr} {tab : List (Tg × Tg × Bool)} {t u : Tg} {b : Bool} (k : IsiOk K g tab) (h : isiT tab t u = some b) : PySem.W.kitOne K (tgV g t) (tgV g u) = some b ∧ ∀ c, t = .own c → InsT K (g c) := by
  have look : (tab.find? fun e => e.1 = t ∧ e.2.1 = u).map (·.2.2) = some b → PySem.W.kitOne K (tgV g t) (tgV g u) = some b ∧ ∀ c, t = .own c → InsT K (g c) := fun z => by
    obtain ⟨e, e1, rfl⟩ := Option.map_eq_some_iff.mp z
    have e2 := List.find?_some e1
    have e3 := List.mem_of_find?_eq_some e1
    simp only [decide_eq_true_eq] at e2
    obtain ⟨rfl, rfl⟩ := e2
    exact ⟨k.ans e e3, k.ins e e3⟩
  cases t with
  | ty a =>
    cases u with
    | ty c =>
      simp only [isiT] at h
      split at h
      · rename_i hh
        cases h
        exact ⟨kit_ty (tySub_ok a hh.1 c hh.2), fun c e => by cases e⟩
      · cases h
    | own c => exact look h
  | own a => exact look h
def tgD : D → Option Tg
  | .non => some (.ty "NoneType")
  | .bl _ => some (.ty "bool")
  | .int _ => some (.ty "int")
  | .str _ => some (.ty "str")
  | .tup _ => some (.ty "tuple")
  | .lst _ => some (.ty "list")
  | .scr _ => some (.ty "list")
  | .obj c _ => some (.own c)
  | _ => none
def tgW (M : List (Option Cell)) : W → Option Tg
  | .d x => tgD x
  | .loc i => match M[i]? with
    | some (some (.lst _)) => some (.ty "list")
    | some (some (.ins c _)) => some (.own c)
    | _ => none
theorem tgW_ok {K : PySem.W.Frag} {R F H : Hp} {L : List Addr} {M : List (Option Cell)} {w : W} {v : V} {t : Tg} (rel : Rel K G.at_ R F L M H) (r : RepW K G.at_ F L w v) (h : tgW M w = some t) (k : ∀ c, t = .own c → InsT K (G.at_ c)) :
    TyX K H v (tgV G.at_ t) := by
  have ins : ∀ {a dx : Addr} {c : Nat} {fs : List (Str × V)}, H a = some (.ins (G.at_ c) dx fs) → InsT K (G.at_ c) → TyX K H (.ref a) (.ref (G.at_ c)) := fun e q => .base (.ins e q.cl q.ha q.hn q.htk q.hm)
  cases w with
  | d x =>
    simp only [tgW] at h
    cases r <;> simp only [tgD] at h <;> cases h
    · exact .base .non
    · exact .base (.bl _)
    · exact .base (.int _)
    · exact .base (.str _)
    · rename_i s q
      rcases s with (e | ⟨o, e⟩) | ⟨o, its, n, e, c, _⟩
      · exact .base (.tup (rel.fh _ _ e))
      · exact .fTuple (rel.fh _ _ e)
      · exact .kTuple e c
    · rename_i s q; exact .base (.lst (rel.fh _ _ s))
    · rename_i s q
      rcases s with (e | ⟨o, e⟩) | ⟨o, its, n, e, c, _⟩
      · exact .base (.lst (rel.fh _ _ e))
      · exact .base (.frz (rel.fh _ _ e))
      · exact .kList e c
    · rename_i s1 s2 q; exact ins (rel.fh _ _ s1) (k _ rfl)
  | loc i =>
    obtain ⟨a, ha, rfl⟩ := r
    simp only [tgW] at h
    split at h
    · rename_i hc
      cases h
      obtain ⟨b, hb, _, _, vs, hv, rs⟩ := rel.ce i _ hc
      rw [ha] at hb; cases hb
      exact .base (.lst hv)
    · rename_i hc
      cases h
      obtain ⟨b, hb, _, _, dx, vs, hv, _⟩ := rel.ce i _ hc
      rw [ha] at hb; cases hb
      exact ins hv (k _ rfl)
    · cases h
def bIsi (tab : List (Tg × Tg × Bool)) : Bf := fun M ws => match ws with
  | [w, .d (.ty n)] => (tgW M w).bind fun t => (isiT tab t (.ty n)).map fun b => .d (.bl b)
  | [w, .d (.cls c)] => (tgW M w).bind fun t => (isiT tab t (.own c)).map fun b => .d (.bl b)
  | _ => none
theorem cr_isi {tab : List (Tg × Tg × Bool)} (k : IsiOk X.K G.at_ tab) : CallR X (.builtin "isinstance") (rBf X.K G (bIsi tab)) := by
  intro pins s σ H xs us Q I rx ⟨R, F, L, M, ws, res, rel, rw', e, q⟩
  unfold bIsi at e
  split at e
  · cases rw' with
    | cons r1 rn => cases rn with
      | cons r2 rn =>
        cases rn
        obtain ⟨t, e1, e2⟩ := Option.bind_eq_some_iff.mp e
        obtain ⟨b, e3, rfl⟩ := Option.map_eq_some_iff.mp e2
        obtain ⟨k1, k2⟩ := isiT_ok k e3
        cases r2
        exact call_isi pins s σ H _ us Q I rx ⟨_, _, _, _, b, rfl, .ty _, tgW_ok rel r1 e1 k2, k1, q _ F H (.refl _) rel (.bl _)⟩
  · cases rw' with
    | cons r1 rn => cases rn with
      | cons r2 rn =>
        cases rn
        obtain ⟨t, e1, e2⟩ := Option.bind_eq_some_iff.mp e
        obtain ⟨b, e3, rfl⟩ := Option.map_eq_some_iff.mp e2
        obtain ⟨k1, k2⟩ := isiT_ok k e3
        cases r2
        exact call_isi pins s σ H _ us Q I rx ⟨_, _, _, _, b, rfl, .own _, tgW_ok rel r1 e1 k2, k1, q _ F H (.refl _) rel (.bl _)⟩
  · cases e
/-- a type's name, a class's name -/
theorem se_ty {n : String} (hg : Gl X x) (hm : X.mg x = none) (hv : bootBuiltins x = some (.type n)) (hn : x ≠ "__name__" := by decide) (hd : (x == ("__debug__" : Str)) = false := by decide) : SE X G Wx (.Name x pos) (eC (.ty n)) :=
  se_c (pe_bltn (v := .ty n) hg hm hv rfl hn hd) fun _ => .ty n
theorem se_cls {c : Nat} (hg : Gl X x) (hm : X.mg x = some (.ref (G.at_ c))) (hd : (x == ("__debug__" : Str)) = false := by decide) : SE X G Wx (.Name x pos) (eC (.cls c)) :=
  se_c (pe_glob (v := .ref (G.at_ c)) hg hm rfl hd) fun _ => .cls c
end
end Pm

set_option maxHeartbeats 2000000
/-! Q9: what loops walk; comprehensions -/
namespace Pm
open PySem PyProof.Rows L2

/-! ### sources -/
def itD : D → Option (List D)
  | .str x => some (x.cps.toList.map fun c => .str ⟨#[c]⟩)
  | d => seqD d
def iSrc (f : Ev Res) : Ev (List D) := (evD f).bind fun d => Ev.lift (itD d)
def iAny (K : PySem.W.Frag) (te : TE) : TI := fun σ H R => te σ H fun x H1 => (∃ a, x = .ref a ∧ (∃ xs, SqL K H1 a xs) ∧ R (Itl K a) H1) ∨ (∃ a, x = .ref a ∧ (∃ xs, SqT K H1 a xs) ∧ R (Itt K a) H1) ∨ ∃ z, x = .str z ∧ R (Its z) H1
section
variable {X : Cx} {G : Cl} {Wx : WX} {tg e : Expr} {f : Ev Res} {p pos : Pos}
theorem pi_any {te : TE} (he : PE X e te) : PI X tg e (iAny X.K te) := by
  refine ⟨fun pins s σ H R I h => ?_⟩
  refine thn (he.run pins s σ H _ I h) fun v s1 ⟨x, H1, I1, r1, q1⟩ => ?_
  rcases q1 with ⟨a, rfl, ⟨xs, hq⟩, q⟩ | ⟨a, rfl, ⟨xs, hq⟩, q⟩ | ⟨z, rfl, q⟩
  · cases r1
    obtain ⟨its, rv, pl, hz⟩ := I1.list hq
    exact wpAny_pyIter_list pl.isList (pi_one (tk := s1.toks) I1 _ (turn_list a _) ⟨_, Heap.get?_push_size _ rfl, rfl, rfl⟩ q)
  · cases r1
    obtain ⟨its, rv, pl, hz⟩ := I1.tuple hq
    exact wpAny_pyIter_tuple (show s1.heap.IsTuple a its.toArray from pl) (pi_one (tk := s1.toks) I1 _ (turn_tuple a _) ⟨_, Heap.get?_push_size _ rfl, rfl, rfl⟩ q)
  · obtain ⟨t, rfl⟩ := r1
    cases ha : z.cps.all (· < 128)
    · exact wpAny_pyIter_wide ha (pi_one (tk := s1.toks) I1 _ (turn_str _ z t "str_iterator" (.inr rfl)) ⟨_, Heap.get?_push_size _ rfl, rfl, rfl⟩ q)
    · exact wpAny_pyIter_ascii ha (pi_one (tk := s1.toks) I1 _ (turn_str _ z t "str_ascii_iterator" (.inl rfl)) ⟨_, Heap.get?_push_size _ rfl, rfl, rfl⟩ q)
theorem itl_ok {K : PySem.W.Frag} {g : Nat → Addr} {F : Hp} {ds : List D} {vs : List V} {a : Addr} (hs : SqL K F a vs) (r : Reps K g F ds vs) : ItOk K g F ds (Itl K a) := fun i R F' L' M' H' s rel =>
  have h := sub_l rel.fh (sub_l s hs)
  ⟨fun d hd => let ⟨v, hv, rv⟩ := r.get hd; ⟨⟨vs, v, h, hv⟩, fun x H'' ⟨eH, hx⟩ => by
    have hx' := hx vs h
    rw [hv] at hx'; cases hx'
    rw [eH]
    exact ⟨F', .refl _, rel, rv.mono s⟩⟩, fun e => ⟨vs, h, by rw [← r.length, e]; exact Nat.le_refl _⟩⟩
theorem itt_ok {K : PySem.W.Frag} {g : Nat → Addr} {F : Hp} {ds : List D} {vs : List V} {a : Addr} (hs : SqT K F a vs) (r : Reps K g F ds vs) : ItOk K g F ds (Itt K a) := fun i R F' L' M' H' s rel =>
  have h := sub_t rel.fh (sub_t s hs)
  ⟨fun d hd => let ⟨v, hv, rv⟩ := r.get hd; ⟨⟨vs, v, h, hv⟩, fun x H'' ⟨eH, hx⟩ => by
    have hx' := hx vs h
    rw [hv] at hx'; cases hx'
    rw [eH]
    exact ⟨F', .refl _, rel, rv.mono s⟩⟩, fun e => ⟨vs, h, by rw [← r.length, e]; exact Nat.le_refl _⟩⟩
theorem its_ok {K : PySem.W.Frag} {g : Nat → Addr} {F : Hp} {z : Str} : ItOk K g F (z.cps.toList.map fun c => .str ⟨#[c]⟩) (Its z) := fun i R F' L' M' H' s rel =>
  ⟨fun d hd => by
    rw [List.getElem?_map] at hd
    obtain ⟨c, hc, rfl⟩ := Option.map_eq_some_iff.mp hd
    have hi : i < z.cps.size := by have := (List.getElem?_eq_some_iff.mp hc).1; simpa using this
    refine ⟨hi, fun x H'' ⟨eH, c', hc', ex⟩ => ?_⟩
    rw [Array.getElem?_toList] at hc
    rw [hc] at hc'; cases hc'
    rw [eH, ex]
    exact ⟨F', .refl _, rel, .str _⟩, fun e => by rw [e]; simp [Its]⟩
theorem si_any (he : SE X G Wx e f) : SI X G Wx tg e (iSrc f) :=
  ⟨PI_imp (pi_any he.pe) fun σ H Q ⟨R, F, L, st, ok, o⟩ => tE_D ok (OutP.bind (f := evD f) o fun d st1 F1 L1 H1 x1 ok1 o1 v rv => by
    obtain ⟨ds, e1, o2⟩ := OutP.lift o1
    have fin := o2 F1 L1 H1 (.refl _ _) ok1
    cases rv <;> simp only [itD, seqD] at e1 <;> cases e1
    · exact .inr (.inr ⟨_, rfl, fin _ its_ok⟩)
    · rename_i q t; exact .inr (.inl ⟨_, rfl, ⟨_, sub_t ok1.rel.fh q⟩, fin _ (itt_ok q t)⟩)
    · rename_i q t; exact .inl ⟨_, rfl, ⟨_, SqL.of (ok1.rel.fh _ _ q)⟩, fin _ (itl_ok (SqL.of q) t)⟩
    · rename_i q t; exact .inl ⟨_, rfl, ⟨_, sub_l ok1.rel.fh q⟩, fin _ (itl_ok q t)⟩), (bel_evD he.bel).bind fun d => .same fun st o st' e => by
      unfold Ev.lift at e; split at e <;> cases e; rfl⟩
/-- ranges -/
def rngD (i : Int) (n : Nat) : List D := (List.range n).map fun (k : Nat) => D.int (i + k)
theorem itr_ok {K : PySem.W.Frag} {g : Nat → Addr} {F : Hp} {lo : Int} {n : Nat} : ItOk K g F (rngD lo n) (Itr lo n) := fun i R F' L' M' H' s rel =>
  ⟨fun d hd => by
    unfold rngD at hd
    rw [List.getElem?_map] at hd
    obtain ⟨c, hc, rfl⟩ := Option.map_eq_some_iff.mp hd
    obtain ⟨hi, rfl⟩ := List.getElem?_eq_some_iff.mp hc
    simp only [List.length_range] at hi
    refine ⟨hi, fun x H'' ⟨eH, ex⟩ => ?_⟩
    rw [eH, ex]
    refine ⟨F', .refl _, rel, ?_⟩
    rw [List.getElem_range]
    exact .int _, fun e => by rw [e]; simp [Itr, rngD]⟩
def smallI (j : Int) : Bool := decide (-(2 ^ 62) ≤ j ∧ j < 2 ^ 62)
def iRange1 (fa : Ev (List W)) : Ev (List D) := fa.bind fun ws => Ev.lift (match ws with
  | [.d (.int j)] => if smallI j then some (rngD 0 j.toNat) else none
  | _ => none)
def iRange2 (fa : Ev (List W)) : Ev (List D) := fa.bind fun ws => Ev.lift (match ws with
  | [.d (.int i), .d (.int j)] => if smallI i && smallI j then some (rngD i (j - i).toNat) else none
  | _ => none)
theorem bel_lift {α β : Type} {f : Ev α} {o : α → Option β} (h : Bel f) : Bel (f.bind fun a => Ev.lift (o a)) := h.bind fun a => .same fun st q st' e => by
  unfold Ev.lift at e; split at e <;> cases e; rfl
theorem si_range1 {a : Expr} {fa : Ev (List W)} (ha : SA X G Wx [a] fa) (hg : Gl X "range") (hm : X.mg "range" = none) (hs : starEach [a] X.env = [(false, eval a X.env)] := by rfl) : SI X G Wx tg (.Call (.Name "range" p) [a] [] pos) (iRange1 fa) :=
  ⟨PI_imp (pi_range1 hg hm ha.pa hs) fun σ H Q ⟨R, F, L, st, ok, o⟩ => ⟨R, F, L, st, ok, OutP.bind (f := fa) o fun ws st1 F1 L1 H1 x1 ok1 o1 vs rv => by
    obtain ⟨ds, e1, o2⟩ := OutP.lift o1
    have fin := o2 F1 L1 H1 (.refl _ _) ok1
    split at e1
    · split at e1
      · rename_i hs
        cases e1
        have hs := of_decide_eq_true hs
        cases rv with
        | cons r1 rn => cases rn; cases r1; exact ⟨_, rfl, hs.1, hs.2, fin _ itr_ok⟩
      · cases e1
    · cases e1⟩, bel_lift ha.bel⟩
theorem si_range2 {a b : Expr} {fa : Ev (List W)} (ha : SA X G Wx [a, b] fa) (hg : Gl X "range") (hm : X.mg "range" = none) (hs : starEach [a, b] X.env = [(false, eval a X.env), (false, eval b X.env)] := by rfl) (hs2 : starEach [b] X.env = [(false, eval b X.env)] := by rfl) :
    SI X G Wx tg (.Call (.Name "range" p) [a, b] [] pos) (iRange2 fa) :=
  ⟨PI_imp (pi_range2 hg hm ha.pa hs hs2) fun σ H Q ⟨R, F, L, st, ok, o⟩ => ⟨R, F, L, st, ok, OutP.bind (f := fa) o fun ws st1 F1 L1 H1 x1 ok1 o1 vs rv => by
    obtain ⟨ds, e1, o2⟩ := OutP.lift o1
    have fin := o2 F1 L1 H1 (.refl _ _) ok1
    split at e1
    · split at e1
      · rename_i hs
        cases e1
        simp only [Bool.and_eq_true] at hs
        have h1 := of_decide_eq_true hs.1
        have h2 := of_decide_eq_true hs.2
        cases rv with
        | cons r1 rn => cases rn with
          | cons r2 rn => cases rn; cases r1; cases r2; exact ⟨_, _, rfl, ⟨h1.1, h1.2, h2.1, h2.2⟩, fin _ itr_ok⟩
      · cases e1
    · cases e1⟩, bel_lift ha.bel⟩
/-- enumerate(l) -/
def enumD (ds : List D) : List D := ds.zipIdx.map fun q => .tup [.int q.2, q.1]
def iEnumL (f : Ev Res) : Ev (List D) := (evD f).bind fun d => Ev.lift ((lstD d).map enumD)
theorem ite_ok {K : PySem.W.Frag} {g : Nat → Addr} {F : Hp} {ds : List D} {vs : List V} {a : Addr} (hs : SqL K F a vs) (r : Reps K g F ds vs) : ItOk K g F (enumD ds) (Ite K a) := fun i R F' L' M' H' s rel =>
  have h := sub_l rel.fh (sub_l s hs)
  ⟨fun d hd => by
    unfold enumD at hd
    rw [List.getElem?_map] at hd
    obtain ⟨q, hq, rfl⟩ := Option.map_eq_some_iff.mp hd
    rw [List.getElem?_zipIdx] at hq
    obtain ⟨d0, hd0, rfl⟩ := Option.map_eq_some_iff.mp hq
    obtain ⟨v, hv, rv⟩ := r.get hd0
    refine ⟨⟨vs, v, h, hv⟩, fun x H'' ⟨T, y, ex, hT, eH, hx⟩ => ?_⟩
    have hx' := hx vs h
    rw [hv] at hx'; cases hx'
    rw [eH, ex]
    have rs : Reps K g F' [D.int ((0 + i : Nat) : Int), d0] [V.int (i : Nat), v] := by
      rw [Nat.zero_add]
      exact .cons (.int _) (.cons (rv.mono s) .nil)
    obtain ⟨h1, h2, h3⟩ := rel.newTup hT rs
    exact ⟨_, h1, h2, h3⟩, fun e => ⟨vs, h, by rw [← r.length, e]; simp [enumD]⟩⟩
theorem si_enum {elts : List Expr} {kk : Nat} {tpos : Pos} (he : SE X G Wx e f) (hg : Gl X "enumerate") (hm : X.mg "enumerate" = none) (hs : starEach [e] X.env = (false, eval e X.env) :: starEach [] X.env := by rfl) :
    SI X G Wx (.Tuple elts kk tpos) (.Call (.Name "enumerate" p) [e] [] pos) (iEnumL f) :=
  ⟨PI_imp (pi_enum hg hm (pa_cons he.pe pa_nil hs) hs) fun σ H Q ⟨R, F, L, st, ok, o⟩ => tE_D ok (OutP.bind (f := evD f) o fun d st1 F1 L1 H1 x1 ok1 o1 v rv => by
    obtain ⟨ds, e1, o2⟩ := OutP.lift o1
    obtain ⟨ds0, e2, rfl⟩ := Option.map_eq_some_iff.mp e1
    have fin := o2 F1 L1 H1 (.refl _ _) ok1
    cases rv <;> simp only [lstD] at e2 <;> cases e2
    · rename_i q t; exact ⟨_, _, rfl, SqL.of (ok1.rel.fh _ _ q), fin _ (ite_ok (SqL.of q) t)⟩
    · rename_i q t; exact ⟨_, _, rfl, sub_l ok1.rel.fh q, fin _ (ite_ok q t)⟩), bel_lift (bel_evD he.bel)⟩
end

/-! ### comprehensions -/
/-- no error comes out of a comprehension -/
abbrev WF : WX := fun _ _ _ _ => False
def wipeSl (sl : List Sl) : List Nat → List Sl
  | [] => sl
  | v :: vs => (wipeSl sl vs).set v .no
def kept : Option Sl → Sl
  | some (.w (.d x)) => .w (.d x)
  | _ => .no
def keepSl (old new : List Sl) : List Nat → List Sl
  | [] => new
  | v :: vs => (keepSl old new vs).set v (kept old[v]?)
def fYes : Ev Bool := Ev.pure true
/-- the turns: acc what is told so far -/
def compGo (k : D → S → Option S) (vs : List Nat) (turn : List W → Ev (List W)) : List W → List D → Ev (List W)
  | acc, [] => Ev.pure acc
  | acc, d :: r => fun st => match k d ⟨wipeSl st.sl vs, st.M, st.b⟩ with
    | none => none
    | some st1 => match turn acc st1 with
      | some (.ok acc', st2) => compGo k vs turn acc' r st2
      | _ => none
def tellW (fe : Ev W) (acc : List W) : Ev (List W) := fun st => match fe st with
  | some (.ok w, st1) => if acc.length < sizeLine then some (.ok (acc ++ [w]), st1) else none
  | _ => none
def compIf (ft : Ev Bool) (h : List W → Ev (List W)) (acc : List W) : Ev (List W) := fun st => match ft st with
  | some (.ok true, st1) => h acc st1
  | some (.ok false, st1) => some (.ok acc, st1)
  | _ => none
def compFin (st : S) (vs : List Nat) : Option (Out (List W) × S) → Option (Out Res × S)
  | some (.ok ws, st') => some (.ok (.new (.lst ws)), ⟨keepSl st.sl st'.sl vs, st'.M, st'.b⟩)
  | _ => none
def eComp (fi : Ev (List D)) (k : D → S → Option S) (vs : List Nat) (ft : Ev Bool) (fe : Ev W) : Ev Res := fi.bind fun ds => fun st => compFin st vs (compGo k vs (compIf ft (tellW fe)) [] ds st)
theorem wipeSl_length (sl : List Sl) : ∀ vs, (wipeSl sl vs).length = sl.length
  | [] => rfl
  | v :: vs => by unfold wipeSl; rw [List.length_set, wipeSl_length sl vs]
theorem keepSl_length (old new : List Sl) : ∀ vs, (keepSl old new vs).length = new.length
  | [] => rfl
  | v :: vs => by unfold keepSl; rw [List.length_set, keepSl_length old new vs]
theorem wipe_get (σ : L2.St) (i : Nat) : ∀ vs : List Nat, (L2.wipe σ vs)[i]? = if i ∈ vs then (if i < σ.length then some none else none) else σ[i]?
  | [] => by simp [L2.wipe]
  | v :: vs => by
    unfold L2.wipe
    rw [List.getElem?_set]
    by_cases h : v = i
    · subst h; simp [L2.wipe_length]
    · rw [if_neg h, wipe_get σ i vs]
      have : (i = v) = False := by simp; exact fun z => h z.symm
      simp [List.mem_cons, this]
theorem Tch.wipe {vs ws : List Nat} {σ σ' : L2.St} (h : Tch vs σ σ') (hs : ∀ i ∈ vs, i ∈ ws) : L2.wipe σ' ws = L2.wipe σ ws := by
  apply List.ext_getElem?
  intro i
  rw [wipe_get, wipe_get, h.1]
  by_cases hi : i ∈ ws
  · rw [if_pos hi, if_pos hi]
  · rw [if_neg hi, if_neg hi]
    exact h.2 i fun z => hi (hs i z)
theorem Tch.of_wipe {ws : List Nat} {σ σ' : L2.St} (h : L2.wipe σ' ws = L2.wipe σ ws) : Tch ws σ σ' := by
  refine ⟨?_, fun i hi => ?_⟩
  · have := congrArg List.length h
    rwa [L2.wipe_length, L2.wipe_length] at this
  · have := congrArg (·[i]?) h
    simp only [wipe_get, if_neg hi] at this
    exact this
section
variable {K : PySem.W.Frag} {g : Nat → Addr} {G : Cl} {R F F' : Hp} {L L' : List Addr} {M : List (Option Cell)} {H H' : Hp} {st : S} {σ σ' : L2.St}
theorem Ok.wipe (ok : Ok K G R F L st σ H) : ∀ vs : List Nat, Ok K G R F L ⟨wipeSl st.sl vs, st.M, st.b⟩ (L2.wipe σ vs) H
  | [] => ok
  | v :: vs => by
    have h := Ok.wipe ok vs
    refine ⟨h.rel, by unfold wipeSl L2.wipe; simpa using h.len, fun i x e => ?_⟩
    simp only [wipeSl] at e
    rw [List.getElem?_set] at e
    split at e
    · split at e
      · cases e; trivial
      · cases e
    · rename_i hn
      have q := h.sl i x e
      have ei : (L2.wipe σ (v :: vs))[i]? = (L2.wipe σ vs)[i]? := by
        show ((L2.wipe σ vs).set v none)[i]? = _
        rw [List.getElem?_set_ne hn]
      cases x with
      | no => trivial
      | w w => obtain ⟨z, hz, rz⟩ := q; exact ⟨z, ei.trans hz, rz⟩
      | ex c fs => obtain ⟨hz, rz⟩ := q; exact ⟨ei.trans hz, rz⟩
theorem keepSl_get (old new : List Sl) (i : Nat) (x : Sl) : ∀ vs : List Nat, (keepSl old new vs)[i]? = some x → (i ∈ vs ∧ x = kept old[i]?) ∨ (i ∉ vs ∧ new[i]? = some x)
  | [], h => .inr ⟨by simp, h⟩
  | v :: vs, h => by
    unfold keepSl at h
    rw [List.getElem?_set] at h
    split at h
    · rename_i hv
      split at h
      · cases h; exact .inl ⟨by simp [hv], by rw [hv]⟩
      · cases h
    · rename_i hv
      rcases keepSl_get old new i x vs h with ⟨h1, h2⟩ | ⟨h1, h2⟩
      · exact .inl ⟨List.mem_cons_of_mem _ h1, h2⟩
      · exact .inr ⟨by simp only [List.mem_cons, not_or]; exact ⟨fun z => hv z.symm, h1⟩, h2⟩
/-- behind the turns -/
theorem Ok.keep {st' : S} {vs : List Nat} {H0 : Hp} (ok : Ok K G R F L st σ H0) (x : Ext F F' L L') (ok' : Ok K G R F' L' st' σ' H') (t : Tch vs σ σ') : Ok K G R F' L' ⟨keepSl st.sl st'.sl vs, st'.M, st'.b⟩ σ H' :=
  ⟨ok'.rel, by rw [keepSl_length, ok'.len, t.1], fun i s e => by
    rcases keepSl_get _ _ i s vs e with ⟨h1, rfl⟩ | ⟨h1, h2⟩
    · cases eo : st.sl[i]? with
      | none => trivial
      | some o =>
        cases o with
        | w w =>
          cases w with
          | d y => exact (ok.sl i _ eo).ext x
          | loc _ => trivial
        | _ => trivial
    · have q := ok'.sl i s h2
      cases s with
      | no => trivial
      | w w => obtain ⟨z, hz, rz⟩ := q; exact ⟨z, (t.2 i h1).symm.trans hz, rz⟩
      | ex c fs => obtain ⟨hz, rz⟩ := q; exact ⟨(t.2 i h1).symm.trans hz, rz⟩⟩
/-- a list besides, held by R -/
theorem Rel.hold {D : Addr} {o : HO} (rel : Rel K g R F L M H) (hD : H D = none) : Rel K g (upd R D o) F L M (upd H D o) := by
  have fD := rel.fh.none hD
  refine ⟨rel.fh.upd fD, fun a u e => ?_, fun a u e => ?_, rel.il, fun i c e => ?_, rel.nd⟩
  · by_cases h : a = D
    · subst h; rw [upd_same] at e ⊢; exact e
    · rw [upd_ne h] at e ⊢; exact rel.rh a u e
  · by_cases h : a = D
    · subst h; exact fD
    · rw [upd_ne h] at e; exact rel.fr a u e
  · obtain ⟨a, ha, r⟩ := rel.ce i c e
    refine ⟨a, ha, ?_⟩
    cases c with
    | lst ws =>
      obtain ⟨f0, r0, vs, hv, q⟩ := r
      have hne := ne_of_none hv hD
      exact ⟨f0, by rw [upd_ne hne]; exact r0, vs, by rw [upd_ne hne]; exact hv, q⟩
    | ins c fs =>
      obtain ⟨f0, r0, dx, vs, hv, ho, f1, r1, q⟩ := r
      have hne := ne_of_none hv hD
      have hne2 := ne_of_none ho hD
      exact ⟨f0, by rw [upd_ne hne]; exact r0, dx, vs, by rw [upd_ne hne]; exact hv, by rw [upd_ne hne2]; exact ho, f1, by rw [upd_ne hne2]; exact r1, q⟩
theorem Rel.reheld {D : Addr} {o o' : HO} (rel : Rel K g (upd R D o) F L M H) : Rel K g (upd R D o') F L M (upd H D o') := by
  have fD : F D = none := rel.fr D o upd_same
  have rD : ∀ {a}, upd R D o a = none → a ≠ D ∧ upd R D o' a = none := fun {a} h => by
    by_cases z : a = D
    · subst z; rw [upd_same] at h; cases h
    · rw [upd_ne z] at h ⊢; exact ⟨z, h⟩
  refine ⟨rel.fh.upd fD, fun a u e => ?_, fun a u e => ?_, rel.il, fun i c e => ?_, rel.nd⟩
  · by_cases h : a = D
    · subst h; rw [upd_same] at e ⊢; exact e
    · rw [upd_ne h] at e ⊢; exact rel.rh a u (by rw [upd_ne h]; exact e)
  · by_cases h : a = D
    · subst h; exact fD
    · rw [upd_ne h] at e; exact rel.fr a u (by rw [upd_ne h]; exact e)
  · obtain ⟨a, ha, r⟩ := rel.ce i c e
    refine ⟨a, ha, ?_⟩
    cases c with
    | lst ws =>
      obtain ⟨f0, r0, vs, hv, q⟩ := r
      obtain ⟨h1, h2⟩ := rD r0
      exact ⟨f0, h2, vs, by rw [upd_ne h1]; exact hv, q⟩
    | ins c fs =>
      obtain ⟨f0, r0, dx, vs, hv, ho, f1, r1, q⟩ := r
      obtain ⟨h1, h2⟩ := rD r0
      obtain ⟨h3, h4⟩ := rD r1
      exact ⟨f0, h2, dx, vs, by rw [upd_ne h1]; exact hv, by rw [upd_ne h3]; exact ho, f1, h4, q⟩
/-- let go: a fresh list -/
theorem Rel.letgo {D : Addr} {vs : List V} {ws : List W} (rel : Rel K G.at_ (upd R D (.lst vs)) F L M H) (hR : R D = none) (r : RepWs K G.at_ F L ws vs) : Rel K G.at_ R F L M H ∧ RepR K G R F L M H (.new (.lst ws)) (.ref D) := by
  have hD : H D = some (.lst vs) := rel.rh D _ upd_same
  have sub : Sub R (upd R D (.lst vs)) := fun a o e => by rw [upd_ne (ne_of_none e hR)]; exact e
  have rn : ∀ {a}, upd R D (.lst vs) a = none → a ≠ D ∧ R a = none := fun {a} h => by
    by_cases z : a = D
    · subst z; rw [upd_same] at h; cases h
    · rw [upd_ne z] at h; exact ⟨z, h⟩
  refine ⟨⟨rel.fh, fun a o e => rel.rh a o (sub a o e), fun a o e => rel.fr a o (sub a o e), rel.il, fun i c e => ?_, rel.nd⟩, D, rfl, ⟨rel.fr D _ upd_same, hR, vs, hD, r⟩, fun i c e z => ?_⟩
  · obtain ⟨a, ha, r⟩ := rel.ce i c e
    refine ⟨a, ha, ?_⟩
    cases c with
    | lst ws => obtain ⟨f0, r0, q⟩ := r; exact ⟨f0, (rn r0).2, q⟩
    | ins c fs => obtain ⟨f0, r0, dx, vs, hv, ho, f1, r1, q⟩ := r; exact ⟨f0, (rn r0).2, dx, vs, hv, ho, f1, (rn r1).2, q⟩
  · obtain ⟨a, ha, r⟩ := rel.ce i c e
    rw [z] at ha; cases ha
    exact (rn r.rNone).1 rfl
end
/-! ### outcomes that bear no error -/
section
variable {X : Cx} {G : Cl} {Wx : WX}
structure STs (X : Cx) (G : Cl) (Wx : WX) (l : List Expr) (f : Ev Bool) : Prop where
  pts : PTs X l (tT X.K G Wx f)
  bel : Bel f
theorem PTs_imp {X : Cx} {e : List Expr} {t t' : TT} (h : PTs X e t) (k : ∀ σ H Q, t' σ H Q → t σ H Q) : PTs X e t' :=
  ⟨fun pins s σ H Q I hw => h.run pins s σ H Q I (k σ H Q hw)⟩
theorem sts_nil : STs X G Wx [] fYes := ⟨PTs_imp pts_nil fun σ H Q ⟨R, F, L, st, ok, o⟩ => o F L H (.refl _ _) ok, .pure⟩
theorem sts_one {c : Expr} {t : Ev Bool} (h : ST X G Wx c t) : STs X G Wx [c] t := ⟨pts_one h.pt, h.bel⟩
end
theorem bel_tell {fe : Ev W} (h : Bel fe) (acc : List W) : Bel (tellW fe acc) := fun st o st' hb e => by
  unfold tellW at e
  split at e
  · rename_i w st1 e1
    split at e
    · cases e; exact h _ _ _ hb e1
    · cases e
  · cases e
theorem bel_compIf {ft : Ev Bool} {h : List W → Ev (List W)} (ht : Bel ft) (hh : ∀ acc, Bel (h acc)) (acc : List W) : Bel (compIf ft h acc) := fun st o st' hb e => by
  unfold compIf at e
  split at e
  · rename_i st1 e1
    have l1 := ht _ _ _ hb e1
    exact l1.trans (hh acc _ _ _ (l1.ok hb) e)
  · rename_i st1 e1
    cases e
    exact ht _ _ _ hb e1
  · cases e
theorem bel_compGo {k : D → S → Option S} {vs : List Nat} {turn : List W → Ev (List W)} (hk : ∀ d st st', st.b ≤ st.M.length → k d st = some st' → Le st st') (ht : ∀ acc, Bel (turn acc)) : ∀ (ds : List D) (acc : List W), Bel (compGo k vs turn acc ds)
  | [], acc => .pure
  | d :: r, acc => fun st o st' hb e => by
    simp only [compGo] at e
    split at e
    · cases e
    · rename_i st1 e1
      have l1 := hk _ _ _ (show (⟨wipeSl st.sl vs, st.M, st.b⟩ : S).b ≤ _ from hb) e1
      split at e
      · rename_i acc' st2 e2
        have l2 := ht _ _ _ _ (l1.ok hb) e2
        have l3 := bel_compGo hk ht r acc' _ _ _ (l2.ok (l1.ok hb)) e
        exact (show Le st st1 from l1).trans (l2.trans l3)
      · cases e
theorem bel_comp {fi : Ev (List D)} {k : D → S → Option S} {vs : List Nat} {turn : List W → Ev (List W)} (hi : Bel fi) (hk : ∀ d st st', st.b ≤ st.M.length → k d st = some st' → Le st st') (ht : ∀ acc, Bel (turn acc)) :
    Bel (fi.bind fun ds => fun st => compFin st vs (compGo k vs turn [] ds st)) := hi.bind fun ds => fun st o st' hb e => by
  unfold compFin at e
  split at e
  · rename_i ws st1 e1
    cases e
    exact (show Le st st1 from bel_compGo hk ht ds [] _ _ _ hb e1)
  · cases e
section
variable {X : Cx} {G : Cl} {Wx : WX}
theorem tch_wiped (vs : List Nat) (σ : L2.St) : Tch vs σ (L2.wipe σ vs) := ⟨L2.wipe_length _ _, fun i hi => by rw [wipe_get, if_neg hi]⟩
theorem Tch.after {vs ws : List Nat} {a b : L2.St} (h : Tch ws (L2.wipe a vs) b) (hs : ∀ i ∈ ws, i ∈ vs) : Tch vs a b :=
  ⟨h.1.trans (L2.wipe_length _ _), fun i hi => (h.2 i fun z => hi (hs i z)).trans ((tch_wiped vs a).2 i hi)⟩
theorem Tch.sub {vs ws : List Nat} {a b : L2.St} (h : Tch ws a b) (hs : ∀ i ∈ ws, i ∈ vs) : Tch vs a b := ⟨h.1, fun i hi => h.2 i fun z => hi (hs i z)⟩
theorem Tch.same {vs : List Nat} {a b c : L2.St} (h : Tch vs a b) (k : Tch vs b c) : Tch vs a c := ⟨k.1.trans h.1, fun i hi => (k.2 i hi).trans (h.2 i hi)⟩
theorem Ok.re {K : PySem.W.Frag} {R R' F H H' : Hp} {L : List Addr} {st : S} {σ : L2.St} (ok : Ok K G R F L st σ H) (rel : Rel K G.at_ R' F L st.M H') : Ok K G R' F L st σ H' := ⟨rel, ok.len, ok.sl⟩
theorem compIf_t {ft : Ev Bool} {h : List W → Ev (List W)} {acc : List W} {st st5 : S} (e : ft st = some (.ok true, st5)) : compIf ft h acc st = h acc st5 := by unfold compIf; rw [e]
theorem compIf_f {ft : Ev Bool} {h : List W → Ev (List W)} {acc : List W} {st st5 : S} (e : ft st = some (.ok false, st5)) : compIf ft h acc st = some (.ok acc, st5) := by unfold compIf; rw [e]
theorem compIf_n {ft : Ev Bool} {h : List W → Ev (List W)} {acc : List W} {st : S} (e : ft st = none) : compIf ft h acc st = none := by unfold compIf; rw [e]
theorem compIf_x {ft : Ev Bool} {h : List W → Ev (List W)} {acc : List W} {st st5 : S} {z : Exc} (e : ft st = some (.exc z, st5)) : compIf ft h acc st = none := by unfold compIf; rw [e]
/-- the turns that are left, from an answer -/
def nextGo (k : D → S → Option S) (vs : List Nat) (turn : List W → Ev (List W)) (r : List D) : Option (Out (List W) × S) → Option (Out (List W) × S)
  | some (.ok acc, st) => compGo k vs turn acc r st
  | _ => none
theorem compGo_cons {k : D → S → Option S} {vs : List Nat} {turn : List W → Ev (List W)} {acc : List W} {d : D} {r : List D} {st st1 : S} (e : k d ⟨wipeSl st.sl vs, st.M, st.b⟩ = some st1) : compGo k vs turn acc (d :: r) st = nextGo k vs turn r (turn acc st1) := by
  simp only [compGo, e]
  rfl
theorem compGo_no {k : D → S → Option S} {vs : List Nat} {turn : List W → Ev (List W)} {acc : List W} {d : D} {r : List D} {st : S} (e : k d ⟨wipeSl st.sl vs, st.M, st.b⟩ = none) : compGo k vs turn acc (d :: r) st = none := by
  simp only [compGo, e]
def innerGo (fi1 : Ev (List D)) (k1 : D → S → Option S) (vs1 : List Nat) (turn : List W → Ev (List W)) (acc : List W) : Ev (List W) := fun st => match fi1 st with
  | some (.ok ds, st1) => compGo k1 vs1 turn acc ds st1
  | _ => none
def eComp2 (fi : Ev (List D)) (k : D → S → Option S) (vs : List Nat) (ft : Ev Bool) (fi1 : Ev (List D)) (k1 : D → S → Option S) (vs1 : List Nat) (ft1 : Ev Bool) (fe : Ev W) : Ev Res :=
  fi.bind fun ds => fun st => compFin st vs (compGo k vs (compIf ft (innerGo fi1 k1 vs1 (compIf ft1 (tellW fe)))) [] ds st)
variable {K : PySem.W.Frag} {fi fi1 : Ev (List D)} {k k1 : D → S → Option S} {vs vs0 vs1 : List Nat} {ft ft1 : Ev Bool} {fe : Ev Res} {hf : Ev W} {σ : L2.St} {H : Hp} {Q : VK}
/-- one turn's element, told -/
theorem tell_of {P : Option (Out (List W) × S) → Prop} (hw : AsW fe hf) {R F : Hp} {L : List Addr} {st : S} {τ : L2.St} {H0 : Hp} {D : Addr} {acc : List W} {vacc : List V} {Z : VK} (hn : ∀ {x}, (∀ a s, x ≠ some (.ok a, s)) → ¬ P x)
    (ok : Ok K G (upd R D (.lst vacc)) F L st τ H0) (ra : RepWs K G.at_ F L acc vacc) (o : P (tellW hf acc st))
    (z : ∀ F' L' st' H' w v, Ext F F' L L' → Ok K G (upd R D (.lst (vacc ++ [v]))) F' L' st' τ (upd H' D (.lst (vacc ++ [v]))) → RepWs K G.at_ F' L' (acc ++ [w]) (vacc ++ [v]) → H' D = some (.lst vacc) → vacc.length < sizeLine → P (some (.ok (acc ++ [w]), st')) → Z v H') :
    tE K G WF fe τ H0 Z := by
  refine tE_of ok (hw.out ?_)
  unfold tellW at o
  cases ew : hf st with
  | none => rw [ew] at o; exact (hn (by intro a s z; cases z) o).elim
  | some p =>
    obtain ⟨ow, st6⟩ := p
    rw [ew] at o
    cases ow with
    | exc z => exact (hn (by intro a s z; cases z) o).elim
    | ok w =>
      dsimp only at o
      split at o
      · rename_i hl
        intro F6 L6 H6 x6 ok6 v rv
        exact z F6 L6 st6 H6 w v x6 (ok6.re ok6.rel.reheld) ((ra.ext x6).append (.cons rv .nil)) (ok6.rel.rh D _ upd_same) (by rw [← ra.length]; exact hl) o
      · exact (hn (by intro a s z; cases z) o).elim
theorem fin_no {R F : Hp} {L : List Addr} {st1 : S} {x : Option (Out (List W) × S)} (h : ∀ a s, x ≠ some (.ok a, s)) : ¬ OutE K G Wx R F L σ Q (compFin st1 vs x) := fun o => by
  cases x with
  | none => exact o
  | some p =>
    obtain ⟨ow, s⟩ := p
    cases ow with
    | exc z => exact o
    | ok a => exact h a s rfl
theorem next_no {turn : List W → Ev (List W)} {r : List D} {x : Option (Out (List W) × S)} (h : ∀ a s, x ≠ some (.ok a, s)) : nextGo k vs turn r x = none := by
  cases x with
  | none => rfl
  | some p =>
    obtain ⟨ow, s⟩ := p
    cases ow with
    | exc z => rfl
    | ok a => exact (h a s rfl).elim
theorem tLc_of (hv : ∀ i ∈ vs0, i ∈ vs) (hw : AsW fe hf) (t : tE K G Wx (eComp fi k vs ft hf) σ H Q) : tLc (tI K G Wx fi) (tG K G k vs0) (tT K G WF ft) (tE K G WF fe) vs σ H Q := by
  obtain ⟨R, F, L, st, ok0, o⟩ := t
  refine ⟨R, F, L, st, ok0, OutP.bind (f := fi) o fun ds st1 F1 L1 H1 x1 ok1 o1 J itok D hD => ?_⟩
  have hR : R D = none := ok1.rel.rh.none hD
  refine ⟨fun i m H => m = ds.length - i ∧ i ≤ ds.length ∧ ∃ F' L' st' σ' acc vacc, Ext F1 F' L1 L' ∧ Ok K G (upd R D (.lst vacc)) F' L' st' σ' H ∧ Tch vs σ σ' ∧ RepWs K G.at_ F' L' acc vacc ∧
    OutE K G Wx R F' L' σ Q (compFin st1 vs (compGo k vs (compIf ft (tellW hf)) acc (ds.drop i) st')), ⟨_, rfl, Nat.zero_le _, F1, L1, st1, σ, [], [], .refl _ _, ok1.re (ok1.rel.hold hD), .refl _ _, .nil, o1⟩, ?_⟩
  rintro i m H2 ⟨rfl, hil, F2, L2, st2, σ2, acc, vacc, x2, ok2, t2, ra, o2⟩
  obtain ⟨hgo, hstop⟩ := itok i _ F2 L2 st2.M H2 x2.f ok2.rel
  rcases Nat.lt_or_ge i ds.length with h | h
  · right
    have e : ds[i]? = some ds[i] := List.getElem?_eq_getElem h
    obtain ⟨g1, g2⟩ := hgo _ e
    refine ⟨g1, fun H => ∃ m', m' < ds.length - i ∧ m' = ds.length - (i + 1) ∧ i + 1 ≤ ds.length ∧ ∃ F' L' st' σ' acc vacc, Ext F1 F' L1 L' ∧ Ok K G (upd R D (.lst vacc)) F' L' st' σ' H ∧ Tch vs σ σ' ∧ RepWs K G.at_ F' L' acc vacc ∧
      OutE K G Wx R F' L' σ Q (compFin st1 vs (compGo k vs (compIf ft (tellW hf)) acc (ds.drop (i + 1)) st')), fun H' ⟨m', a1, a2, a3, a4⟩ => ⟨m', a1, a2, a3, a4⟩, fun x H3 hy => ?_⟩
    obtain ⟨F3, s3, rel3, r3⟩ := g2 x H3 hy
    rw [List.drop_eq_getElem_cons h] at o2
    have ok3 := (ok2.with s3 rel3).wipe vs
    rw [t2.wipe fun _ z => z] at ok3
    cases ek : k ds[i] ⟨wipeSl st2.sl vs, st2.M, st2.b⟩ with
    | none => rw [compGo_no ek] at o2; exact o2.elim
    | some st4 =>
      rw [compGo_cons ek] at o2
      refine ⟨_, F3, L2, _, ds[i], st4, ok3, r3, ek, fun σ4 F4 H4 s4 t4 ok4 => ?_⟩
      have tc : Tch vs σ σ4 := t4.after hv
      refine ⟨tc.wipe fun _ z => z, _, F4, L2, st4, ok4, ?_⟩
      cases eb : ft st4 with
      | none => rw [compIf_n eb] at o2; exact o2.elim
      | some p =>
        obtain ⟨ob, st5⟩ := p
        cases ob with
        | exc z => rw [compIf_x eb] at o2; exact o2.elim
        | ok b =>
          intro F5 L5 H5 x5 ok5
          have x25 : Ext F2 F5 L2 L5 := (Ext.frz (s3.trans s4)).trans x5
          cases b with
          | false =>
            (first | rw [if_neg Bool.false_ne_true] | (dsimp only; rw [if_neg Bool.false_ne_true]))
            rw [compIf_f eb] at o2
            exact ⟨_, by omega, rfl, by omega, F5, L5, st5, σ4, acc, vacc, x2.trans x25, ok5, tc, ra.ext x25, OutP.ext x25 o2⟩
          | true =>
            (first | rw [if_pos rfl] | (dsimp only; rw [if_pos rfl]))
            rw [compIf_t eb] at o2
            exact tell_of (P := fun x => OutE K G Wx R F2 L2 σ Q (compFin st1 vs (nextGo k vs (compIf ft (tellW hf)) (ds.drop (i + 1)) x))) hw (fun hx => by rw [next_no hx]; exact id) ok5 (ra.ext x25) o2 fun F6 L6 st6 H6 w v x6 ok6 r6 hd6 hl6 o6 =>
              ⟨vacc, hd6, hl6, _, by omega, rfl, by omega, F6, L6, st6, σ4, acc ++ [w], vacc ++ [v], (x2.trans x25).trans x6, ok6, tc, r6, OutP.ext (x25.trans x6) o6⟩
  · left
    have e : i = ds.length := by omega
    refine ⟨hstop e, ?_⟩
    rw [List.drop_eq_nil_of_le h] at o2
    obtain ⟨rel', rr⟩ := ok2.rel.letgo (G := G) hR ra
    exact o2 F2 L2 H2 (.refl _ _) (ok1.keep x2 (ok2.re rel') t2) _ rr
theorem tLc2_of (hv : ∀ i ∈ vs0, i ∈ vs) (hv1 : ∀ i ∈ vs1, i ∈ vs) (hw : AsW fe hf) (t : tE K G Wx (eComp2 fi k vs ft fi1 k1 vs1 ft1 hf) σ H Q) :
    tLc2 (tI K G Wx fi) (tG K G k vs0) (tT K G WF ft) (tI K G WF fi1) (tG K G k1 vs1) (tT K G WF ft1) (tE K G WF fe) vs vs1 σ H Q := by
  obtain ⟨R, F, L, st, ok0, o⟩ := t
  refine ⟨R, F, L, st, ok0, OutP.bind (f := fi) o fun ds st1 F1 L1 H1 x1 ok1 o1 J itok D hD => ?_⟩
  have hR : R D = none := ok1.rel.rh.none hD
  generalize hT : compIf ft (innerGo fi1 k1 vs1 (compIf ft1 (tellW hf))) = T at o1
  refine ⟨fun i m H => m = ds.length - i ∧ i ≤ ds.length ∧ ∃ F' L' st' σ' acc vacc, Ext F1 F' L1 L' ∧ Ok K G (upd R D (.lst vacc)) F' L' st' σ' H ∧ Tch vs σ σ' ∧ RepWs K G.at_ F' L' acc vacc ∧
    OutE K G Wx R F' L' σ Q (compFin st1 vs (compGo k vs T acc (ds.drop i) st')), ⟨_, rfl, Nat.zero_le _, F1, L1, st1, σ, [], [], .refl _ _, ok1.re (ok1.rel.hold hD), .refl _ _, .nil, o1⟩, ?_⟩
  rintro i m H2 ⟨rfl, hil, F2, L2, st2, σ2, acc, vacc, x2, ok2, t2, ra, o2⟩
  obtain ⟨hgo, hstop⟩ := itok i _ F2 L2 st2.M H2 x2.f ok2.rel
  rcases Nat.lt_or_ge i ds.length with h | h
  · right
    have e : ds[i]? = some ds[i] := List.getElem?_eq_getElem h
    obtain ⟨g1, g2⟩ := hgo _ e
    refine ⟨g1, fun H => ∃ m', m' < ds.length - i ∧ m' = ds.length - (i + 1) ∧ i + 1 ≤ ds.length ∧ ∃ F' L' st' σ' acc vacc, Ext F1 F' L1 L' ∧ Ok K G (upd R D (.lst vacc)) F' L' st' σ' H ∧ Tch vs σ σ' ∧ RepWs K G.at_ F' L' acc vacc ∧
      OutE K G Wx R F' L' σ Q (compFin st1 vs (compGo k vs T acc (ds.drop (i + 1)) st')), fun H' ⟨m', a1, a2, a3, a4⟩ => ⟨m', a1, a2, a3, a4⟩, fun x H3 hy => ?_⟩
    obtain ⟨F3, s3, rel3, r3⟩ := g2 x H3 hy
    rw [List.drop_eq_getElem_cons h] at o2
    have ok3 := (ok2.with s3 rel3).wipe vs
    rw [t2.wipe fun _ z => z] at ok3
    cases ek : k ds[i] ⟨wipeSl st2.sl vs, st2.M, st2.b⟩ with
    | none => rw [compGo_no ek] at o2; exact o2.elim
    | some st4 =>
      rw [compGo_cons ek, ← hT] at o2
      rw [hT] at o2
      refine ⟨_, F3, L2, _, ds[i], st4, ok3, r3, ek, fun σ4 F4 H4 s4 t4 ok4 => ?_⟩
      have tc : Tch vs σ σ4 := t4.after hv
      refine ⟨tc.wipe fun _ z => z, _, F4, L2, st4, ok4, ?_⟩
      have hTa : T acc st4 = compIf ft (innerGo fi1 k1 vs1 (compIf ft1 (tellW hf))) acc st4 := by rw [hT]
      rw [hTa] at o2
      cases eb : ft st4 with
      | none => rw [compIf_n eb] at o2; exact o2.elim
      | some p =>
        obtain ⟨ob, st5⟩ := p
        cases ob with
        | exc z => rw [compIf_x eb] at o2; exact o2.elim
        | ok b =>
          intro F5 L5 H5 x5 ok5
          have x25 : Ext F2 F5 L2 L5 := (Ext.frz (s3.trans s4)).trans x5
          cases b with
          | false =>
            (first | rw [if_neg Bool.false_ne_true] | (dsimp only; rw [if_neg Bool.false_ne_true]))
            rw [compIf_f eb] at o2
            exact ⟨_, by omega, rfl, by omega, F5, L5, st5, σ4, acc, vacc, x2.trans x25, ok5, tc, ra.ext x25, OutP.ext x25 o2⟩
          | true =>
            (first | rw [if_pos rfl] | (dsimp only; rw [if_pos rfl]))
            rw [compIf_t eb] at o2
            unfold innerGo at o2
            refine ⟨_, F5, L5, st5, ok5, ?_⟩
            cases ei : fi1 st5 with
            | none => rw [ei] at o2; exact o2.elim
            | some p =>
              obtain ⟨oi, st6⟩ := p
              rw [ei] at o2
              cases oi with
              | exc z => exact o2.elim
              | ok ds1 =>
                intro F6 L6 H6 x6 ok6 J1 itok1
                have x26 : Ext F2 F6 L2 L6 := x25.trans x6
                refine ⟨fun j n H => n = ds1.length - j ∧ j ≤ ds1.length ∧ ∃ F' L' st' σ' acc vacc, Ext F6 F' L6 L' ∧ Ok K G (upd R D (.lst vacc)) F' L' st' σ' H ∧ Tch vs1 σ4 σ' ∧ RepWs K G.at_ F' L' acc vacc ∧
                  OutE K G Wx R F' L' σ Q (compFin st1 vs (nextGo k vs T (ds.drop (i + 1)) (compGo k1 vs1 (compIf ft1 (tellW hf)) acc (ds1.drop j) st'))), ⟨_, rfl, Nat.zero_le _, F6, L6, st6, σ4, acc, vacc, .refl _ _, ok6, .refl _ _, ra.ext x26, OutP.ext x26 o2⟩, ?_⟩
                rintro j n H7 ⟨rfl, hjl, F7, L7, st7, σ7, acc7, vacc7, x7, ok7, t7, ra7, o7⟩
                obtain ⟨hgo1, hstop1⟩ := itok1 j _ F7 L7 st7.M H7 x7.f ok7.rel
                rcases Nat.lt_or_ge j ds1.length with h1 | h1
                · right
                  have e1 : ds1[j]? = some ds1[j] := List.getElem?_eq_getElem h1
                  obtain ⟨g3, g4⟩ := hgo1 _ e1
                  refine ⟨g3, fun H => ∃ m', m' < ds1.length - j ∧ m' = ds1.length - (j + 1) ∧ j + 1 ≤ ds1.length ∧ ∃ F' L' st' σ' acc vacc, Ext F6 F' L6 L' ∧ Ok K G (upd R D (.lst vacc)) F' L' st' σ' H ∧ Tch vs1 σ4 σ' ∧ RepWs K G.at_ F' L' acc vacc ∧
                    OutE K G Wx R F' L' σ Q (compFin st1 vs (nextGo k vs T (ds.drop (i + 1)) (compGo k1 vs1 (compIf ft1 (tellW hf)) acc (ds1.drop (j + 1)) st'))), fun H' ⟨m', a1, a2, a3, a4⟩ => ⟨m', a1, a2, a3, a4⟩, fun x H8 hy8 => ?_⟩
                  obtain ⟨F8, s8, rel8, r8⟩ := g4 x H8 hy8
                  rw [List.drop_eq_getElem_cons h1] at o7
                  have ok8 := (ok7.with s8 rel8).wipe vs1
                  rw [t7.wipe fun _ z => z] at ok8
                  cases ek1 : k1 ds1[j] ⟨wipeSl st7.sl vs1, st7.M, st7.b⟩ with
                  | none => rw [compGo_no ek1] at o7; exact o7.elim
                  | some st9 =>
                    rw [compGo_cons ek1] at o7
                    refine ⟨_, F8, L7, _, ds1[j], st9, ok8, r8, ek1, fun σ9 F9 H9 s9 t9 ok9 => ?_⟩
                    have tc1 : Tch vs1 σ4 σ9 := t9.after fun _ z => z
                    refine ⟨tc1.wipe fun _ z => z, _, F9, L7, st9, ok9, ?_⟩
                    cases eb1 : ft1 st9 with
                    | none => rw [compIf_n eb1] at o7; exact o7.elim
                    | some p =>
                      obtain ⟨ob1, st10⟩ := p
                      cases ob1 with
                      | exc z => rw [compIf_x eb1] at o7; exact o7.elim
                      | ok b1 =>
                        intro F10 L10 H10 x10 ok10
                        have x710 : Ext F7 F10 L7 L10 := (Ext.frz (s8.trans s9)).trans x10
                        cases b1 with
                        | false =>
                          (first | rw [if_neg Bool.false_ne_true] | (dsimp only; rw [if_neg Bool.false_ne_true]))
                          rw [compIf_f eb1] at o7
                          exact ⟨_, by omega, rfl, by omega, F10, L10, st10, σ9, acc7, vacc7, x7.trans x710, ok10, tc1, ra7.ext x710, OutP.ext x710 o7⟩
                        | true =>
                          (first | rw [if_pos rfl] | (dsimp only; rw [if_pos rfl]))
                          rw [compIf_t eb1] at o7
                          exact tell_of (P := fun x => OutE K G Wx R F7 L7 σ Q (compFin st1 vs (nextGo k vs T (ds.drop (i + 1)) (nextGo k1 vs1 (compIf ft1 (tellW hf)) (ds1.drop (j + 1)) x)))) hw (fun hx => by rw [next_no hx]; exact id) ok10 (ra7.ext x710) o7
                            fun F11 L11 st11 H11 w v x11 ok11 r11 hd11 hl11 o11 => ⟨vacc7, hd11, hl11, _, by omega, rfl, by omega, F11, L11, st11, σ9, acc7 ++ [w], vacc7 ++ [v], (x7.trans x710).trans x11, ok11, tc1, r11, OutP.ext (x710.trans x11) o11⟩
                · left
                  have e1 : j = ds1.length := by omega
                  refine ⟨hstop1 e1, ?_⟩
                  rw [List.drop_eq_nil_of_le h1] at o7
                  exact ⟨_, by omega, rfl, by omega, F7, L7, st7, σ7, acc7, vacc7, (x2.trans x26).trans x7, ok7, tc.same (t7.sub hv1), ra7, o7⟩
  · left
    have e : i = ds.length := by omega
    refine ⟨hstop e, ?_⟩
    rw [List.drop_eq_nil_of_le h] at o2
    obtain ⟨rel', rr⟩ := ok2.rel.letgo (G := G) hR ra
    exact o2 F2 L2 H2 (.refl _ _) (ok1.keep x2 (ok2.re rel') t2) _ rr
theorem bel_inner {turn : List W → Ev (List W)} (hi : Bel fi1) (hk : ∀ d st st', st.b ≤ st.M.length → k1 d st = some st' → Le st st') (ht : ∀ acc, Bel (turn acc)) (acc : List W) : Bel (innerGo fi1 k1 vs1 turn acc) := fun st o st' hb e => by
  unfold innerGo at e
  split at e
  · rename_i ds st1 e1
    have l1 := hi _ _ _ hb e1
    exact l1.trans (bel_compGo hk ht ds acc _ _ _ (l1.ok hb) e)
  · cases e
variable {elt tg iter tg1 iter1 : Expr} {ifs ifs1 : List Expr} {scope : Scope} {own : List (Str × Nat)} {pos : Pos}
theorem se_comp (hc : X.calm = true) (hN : X.N.Nodup) (hi : SI X G Wx tg iter fi) (bok : BlkOk X.N X.env.scope scope own)
    (hg : ∀ (s : Shared) (H : Hp) (C : Addr) (cl : List (Str × Addr)) (fp : List Addr), SG (X.blk s H scope (compEnvC scope cl C X.env) fp) G tg k vs0) (hv : ∀ i ∈ vs0, i ∈ own.map (·.2))
    (ht : ∀ (s : Shared) (H : Hp) (C : Addr) (cl : List (Str × Addr)) (fp : List Addr), STs (X.blk s H scope (compEnvC scope cl C X.env) fp) G WF ifs ft) (hw : AsW fe hf)
    (he : ∀ (s : Shared) (H : Hp) (C : Addr) (cl : List (Str × Addr)) (fp : List Addr), SE (X.blk s H scope (compEnvC scope cl C X.env) fp) G WF elt fe)
    (hs : ∀ x, foldedSetIterable iter X.env x = pure x := by intro _; rfl) : SE X G Wx (.ListComp elt [⟨tg, iter, ifs, 0⟩] scope pos) (eComp fi k (own.map (·.2)) ft hf) :=
  ⟨PE_imp (pe_lc hc hN hi.pi bok (fun s H C cl fp => (hg s H C cl fp).pg) (fun s H C cl fp => (ht s H C cl fp).pts) (fun s H C cl fp => (he s H C cl fp).pe) hs) fun σ H Q t => tLc_of hv hw t,
   bel_comp hi.bel (fun d st st' => (hg X.s_0 X.H_0 0 [] []).bel d st st') (bel_compIf (ht X.s_0 X.H_0 0 [] []).bel (bel_tell (hw.bel (he X.s_0 X.H_0 0 [] []).bel)))⟩
theorem se_comp2 (hc : X.calm = true) (hN : X.N.Nodup) (hi : SI X G Wx tg iter fi) (bok : BlkOk X.N X.env.scope scope own)
    (hg : ∀ (s : Shared) (H : Hp) (C : Addr) (cl : List (Str × Addr)) (fp : List Addr), SG (X.blk s H scope (compEnvC scope cl C X.env) fp) G tg k vs0) (hv : ∀ i ∈ vs0, i ∈ own.map (·.2))
    (ht : ∀ (s : Shared) (H : Hp) (C : Addr) (cl : List (Str × Addr)) (fp : List Addr), STs (X.blk s H scope (compEnvC scope cl C X.env) fp) G WF ifs ft)
    (hi1 : ∀ (s : Shared) (H : Hp) (C : Addr) (cl : List (Str × Addr)) (fp : List Addr), SI (X.blk s H scope (compEnvC scope cl C X.env) fp) G WF tg1 iter1 fi1)
    (hg1 : ∀ (s : Shared) (H : Hp) (C : Addr) (cl : List (Str × Addr)) (fp : List Addr), SG (X.blk s H scope (compEnvC scope cl C X.env) fp) G tg1 k1 vs1) (hv1 : ∀ i ∈ vs1, i ∈ own.map (·.2))
    (ht1 : ∀ (s : Shared) (H : Hp) (C : Addr) (cl : List (Str × Addr)) (fp : List Addr), STs (X.blk s H scope (compEnvC scope cl C X.env) fp) G WF ifs1 ft1) (hw : AsW fe hf)
    (he : ∀ (s : Shared) (H : Hp) (C : Addr) (cl : List (Str × Addr)) (fp : List Addr), SE (X.blk s H scope (compEnvC scope cl C X.env) fp) G WF elt fe)
    (hs : ∀ x, foldedSetIterable iter X.env x = pure x := by intro _; rfl) (hs1 : ∀ env x, foldedSetIterable iter1 env x = pure x := by intro _ _; rfl) :
    SE X G Wx (.ListComp elt [⟨tg, iter, ifs, 0⟩, ⟨tg1, iter1, ifs1, 0⟩] scope pos) (eComp2 fi k (own.map (·.2)) ft fi1 k1 vs1 ft1 hf) :=
  ⟨PE_imp (pe_lc2 hc hN hi.pi bok hv1 (fun s H C cl fp => (hg s H C cl fp).pg) (fun s H C cl fp => (ht s H C cl fp).pts) (fun s H C cl fp => (hi1 s H C cl fp).pi) (fun s H C cl fp => (hg1 s H C cl fp).pg) (fun s H C cl fp => (ht1 s H C cl fp).pts)
      (fun s H C cl fp => (he s H C cl fp).pe) hs hs1) fun σ H Q t => tLc2_of hv hv1 hw t,
   bel_comp hi.bel (fun d st st' => (hg X.s_0 X.H_0 0 [] []).bel d st st') (bel_compIf (ht X.s_0 X.H_0 0 [] []).bel
     (bel_inner (hi1 X.s_0 X.H_0 0 [] []).bel (fun d st st' => (hg1 X.s_0 X.H_0 0 [] []).bel d st st') (bel_compIf (ht1 X.s_0 X.H_0 0 [] []).bel (bel_tell (hw.bel (he X.s_0 X.H_0 0 [] []).bel)))))⟩
end
end Pm

set_option maxHeartbeats 2000000
/-! Q10: == and != by an own __eq__ -/
namespace Pm
open PySem PyProof.Rows L2

section
variable {X : Cx} {a b : Expr} {ta tb : TE} {pos : Pos}
def OpS (X : Cx) (f : Value → Value → Sem Value) (r : L2.St → R2) : Prop :=
  ∀ (pins : List (Addr × Obj)) (s : Shared) (σ : L2.St) (H : Hp) (x y : V) (v u : Value) (Q : VK), Inv X pins σ H s → RelV x v → RelV y u → r σ x y H Q → wpAny (model X.prog X.w) X.A (f v u) (EP X pins σ Q) X.xe s
def tOpS (r : L2.St → R2) (ta tb : TE) : TE := fun σ H Q => ta σ H fun x H1 => tb σ H1 fun y H2 => r σ x y H2 Q
theorem pe_cmpS {op : CmpOp} {r : L2.St → R2} (ho : OpS X (compareOp op) r) (ha : PE X a ta) (hb : PE X b tb) (hm : behindInMarks op b = false) : PE X (.Compare a [op] [b] pos) (tOpS r ta tb) := by
  refine ⟨fun pins s σ H Q I h => ?_⟩
  exact wpAny_Compare1 (thn (ha.run pins s σ H _ I h) fun v s1 ⟨x, H1, I1, r1, q1⟩ => thn (hb.run pins s1 σ H1 _ I1 q1) fun u s2 ⟨y, H2, I2, r2, q2⟩ => ho pins s2 σ H2 x y v u Q I2 r1 r2 q2) hm
theorem pt_cmpS {op : CmpOp} {r : L2.St → R2} (ho : OpS X (compareOp op) r) (ha : PE X a ta) (hb : PE X b tb) (hm : behindInMarks op b = false) : PT X (.Compare a [op] [b] pos) (tTest (tOpS r ta tb)) := by
  refine ⟨fun pins s σ H Q I h => ?_⟩
  refine wpAny_isTrue_Compare1 (thn (ha.run pins s σ H _ I h) fun v s1 ⟨x, H1, I1, r1, q1⟩ => thn (hb.run pins s1 σ H1 _ I1 q1) fun u s2 ⟨y, H2, I2, r2, q2⟩ =>
    thn (ho pins s2 σ H2 x y v u _ I2 r1 r2 q2) fun c s3 ⟨z, H3, I3, r3, k, e, q3⟩ => ?_) hm
  subst e
  cases r3
  exact wpAny_truthy_bool ⟨H3, I3, q3⟩
end

/-! ### object.__ne__ asks __eq__ -/
section
open Builtin
variable {prog : Program} {w : World} {A : Around} {E : Value → Shared → Prop} {s : Shared} {K : PySem.W.Frag} {x C f : Addr} {ox : Obj} {od : Option Obj} {b : Value}
theorem bound_bltn {M : Model} {name : Str} {id : String} {args : List Value} {Q : Option Value → Shared → Prop} (X : K.In s.heap) (I : PySem.W.InstAt s.heap x ox C od) (hs : PySem.W.findIn K (.ref C) name = some (some (.builtin id)))
    (hb : ∀ self, bindSpecial (.builtin id) self = pure (.builtin id, [self])) (h : wpAny M A (call (.builtin id) (.ref x :: args)) (fun v => Q (some v)) E s) : wpAny M A (callSpecialIfBound? (.ref x) name args) Q E s := by
  simp only [callSpecialIfBound?, bindSpecialIfBound?]
  refine wpAny_holding (wpAny_bind (wpAny_bind (wpAny_bind (I.type.here ((PySem.W.looks_findIn X hs).here ?_)))))
  refine wpAny_bind (wpAny_askSetting (wpAny_ite ?_))
  have last : wpAny M A (call (.builtin id) ([.ref x] ++ args) >>= fun v => pure (some v)) Q E s := wpAny_bind (wpAny_mono h (fun _ _ z => wpAny_pure z) fun _ _ z => z)
  split
  · exact wpAny_bind ((PySem.W.Looks.of_pure (hb _)).here (wpAny_pure (by exact last)))
  · exact wpAny_tryCatch (wpAny_bind ((PySem.W.Looks.of_pure (hb _)).here (wpAny_pure (by exact last))))
theorem call_one {Q : Value → Shared → Prop} (hu : A.in1.units < cLine) (X : K.In s.heap) (I : PySem.W.InstAt s.heap x ox C od) (hm : PySem.W.mroIn K C (.type "object") = some true) (hr : PySem.W.findIn K (.ref C) "__eq__" = some (some (.ref f))) (hf : PySem.W.isFn K (.ref f) = true)
    (h : wpAny (model prog w) A.in1 (call (.ref f) [.ref x, b]) (fun v s' => ∃ k, v = .bool k ∧ Q (.bool (!k)) s') E s) : wpAny (model prog w) A (call (.builtin "object.__ne__") [.ref x, b]) Q E s := by
  refine wpAny_call (codeAny_call_builtin (by decide +kernel) PySem.F.cmpEntry_ne (PySem.W.check_slot (i := "object.__ne__") (owner := "object") (n := "__ne__") PySem.F.cmpKind_ne PySem.F.cmpSplit_ne (I.type.andThen (PySem.W.looks_mroIn X hm)) (PySem.F.cmpArgs_ne _ _) ?_))
  unfold Builtin.«object.__ne__»
  refine wpAny_bind (m := slotArgs "__ne__" 1 _) (wpAny_pure ?_)
  refine wpAny_bind (m := cRoomFor _ _) (wpAny_cRoomFor hu ?_)
  refine wpAny_bind (m := callSpecialIfBound? (.ref x) (Str.ofString "__eq__") _) (PySem.W.ifBound_K X I hr hf (wpAny_mono h (fun r s' hq => ?_) fun _ _ y => y))
  obtain ⟨k, rfl, q⟩ := hq
  exact wpAny_bind (wpAny_truthy_bool (wpAny_pure q))
/-- a comparison whose first method answers -/
theorem rich_of {op : CmpOp} {tb : Value} {Q : Value → Shared → Prop} (hu : A.units < cLine) (X : K.In s.heap) (I : PySem.W.InstAt s.heap x ox C od) (hb : PySem.W.Looks (model prog w) s.heap (typeOf b) tb) (hn : PySem.W.notFirst K C tb = true)
    (one : wpAny (model prog w) A (tryCompare (.ref x) (cmpInfo op).2.1 b) (fun r s' => ∃ v, r = some v ∧ Q v s') E s) : wpAny (model prog w) A (richCompare op (.ref x) b) Q E s := by
  have fin : ∀ {α : Type} (g : Option Value → Sem Value), (∀ v, g (some v) = pure v) → wpAny (model prog w) A (tryCompare (.ref x) (cmpInfo op).2.1 b >>= g) Q E s := fun g hg =>
    wpAny_bind (wpAny_mono one (fun r s' ⟨v, e, q⟩ => by subst e; rw [hg]; exact wpAny_pure q) fun _ _ y => y)
  unfold richCompare
  simp only [oneThing_ref]
  refine wpAny_holding (wpAny_bind (wpAny_cRoomFor hu (wpAny_bind (I.type.here (wpAny_bind (hb.here ?_))))))
  by_cases hq : (Value.ref C != tb) = true
  · rw [if_pos hq]
    have sub : PySem.W.subIn K tb (.ref C) = some false := (Bool.or_eq_true_iff.mp hn).elim (fun e => by rw [beq_iff_eq.mp e] at hq; simp at hq) fun e => beq_iff_eq.mp e
    exact wpAny_bind ((PySem.W.looks_subIn X sub).here (by simp only [Bool.false_eq_true, if_false]; exact fin (α := Unit) _ fun v => rfl))
  · rw [if_neg hq]
    exact wpAny_bind (wpAny_pure (by simp only [Bool.false_eq_true, if_false]; exact fin (α := Unit) _ fun v => rfl))
end

/-! ### a def called at a place within -/
section
variable {X : Cx} {G : Cl} {Wx : WX} {k : Nat} {f : Addr} {fd : FuncData} {ps : List Str} {fs : Fn} {z : Bool}
theorem call_at {A : Around} (hfr : A.frames = X.A.frames) (F : FnZ z X.prog X.w X.K X.mg X.base (L2.CX X.prog X.w) k f fd ps (spF X.K G.at_ ps.length fs)) (hr : Room k A) (hz : z = true → A.guards = some []) (tk : Takes X Wx) (hb : Binds X.K fd ps [])
    {pins : List (Addr × Obj)} {s : Shared} {σ : L2.St} {H : Hp} {us : List Value} {vs : List V} {Q : VK} (I : Inv X pins σ H s) (r : Vals vs us) {R F0 : Hp} {L : List Addr} {M : List (Option Cell)} {ws : List W} (hl : ws.length = ps.length)
    (rel : Rel X.K G.at_ R F0 L M H) (rw' : RepWs X.K G.at_ F0 L ws vs) (o : OutF X.K G.at_ R F0 L Q (WE Wx σ) (fs ws M)) : wpAny (model X.prog X.w) A (call (.ref f) us) (EP X pins σ Q) X.xe s := by
  have e := I.env0
  have e0 : Env0 X.prog X.w X.K X.mg X.base A X.stack s H := ⟨by rw [hfr]; exact e.frames, e.mod, e.bs, e.bsz, e.funs, e.frf, e.hok, e.bare⟩
  have hlen : us.length = ps.length := by rw [← r.length, ← rw'.length]; exact hl
  have bi := hb s us I.kIn (by simpa using hlen)
  refine wpAny_call (codeAny_mono (F.go A X.stack s H ⟨us, []⟩ us vs Q (WE Wx σ) hr hz e0 (by simpa using bi) r ⟨by rw [← rw'.length]; exact hl, R, F0, L, M, ws, rel, rw', o⟩) fun r s' hq => ?_)
  cases r with
  | error e => exact passAt tk σ pins H s e s' I hq
  | ok fl =>
    cases fl with
    | ret u => exact I.after hq
    | next => exact False.elim hq
    | brk => exact False.elim hq
    | cont => exact False.elim hq
/-! ### own == -/
/-- an instance of the class c -/
def isCls (M : List (Option Cell)) (c : Nat) : W → Bool
  | .d (.obj c' _) => decide (c' = c)
  | .loc i => match M[i]? with
    | some (some (.ins c' _)) => decide (c' = c)
    | _ => false
  | _ => false
theorem isCls_ok {K : PySem.W.Frag} {g : Nat → Addr} {R F H : Hp} {L : List Addr} {M : List (Option Cell)} {w : W} {v : V} {c : Nat} (rel : Rel K g R F L M H) (r : RepW K g F L w v) (h : isCls M c w = true) : ∃ a dx fs, v = .ref a ∧ H a = some (.ins (g c) dx fs) := by
  cases w with
  | d x =>
    cases x with
    | obj c' fs =>
      simp only [isCls, decide_eq_true_eq] at h
      subst h
      cases r with
      | obj e1 e2 rf => exact ⟨_, _, _, rfl, rel.fh _ _ e1⟩
    | _ => cases h
  | loc i =>
    obtain ⟨a, ha, rfl⟩ := r
    simp only [isCls] at h
    split at h
    · rename_i c' fs hc
      simp only [decide_eq_true_eq] at h
      subst h
      obtain ⟨b, hb, _, _, dx, vs, e, _⟩ := rel.ce i _ hc
      rw [ha] at hb; cases hb
      exact ⟨_, _, _, rfl, e⟩
    · cases h
/-- the class's own ==, and what may stand beside it -/
structure EqOk (K : PySem.W.Frag) (g : Nat → Addr) (c : Nat) (f : Addr) (ts : List Tg) : Prop where
  eq : PySem.W.findIn K (.ref (g c)) "__eq__" = some (some (.ref f))
  ne : PySem.W.findIn K (.ref (g c)) "__ne__" = some (some (.builtin "object.__ne__"))
  fn : PySem.W.isFn K (.ref f) = true
  ob : PySem.W.mroIn K (g c) (.type "object") = some true
  nf : ∀ t ∈ ts, PySem.W.notFirst K (g c) (tgV g t) = true
  ins : ∀ t ∈ ts, ∀ d, t = .own d → InsT K (g d)
def ownOut (neg : Bool) (r : Res) : Option Res := match r with
  | .d (.bl b) => some (.d (.bl (xor neg b)))
  | _ => none
def eOwnEq (fs : Fn) (c : Nat) (ts : List Tg) (neg : Bool) (f h : Ev Res) : Ev Res := (evW f).bind fun w => (evW h).bind fun u => fun st => if isCls st.M c w && ((tgW st.M u).any fun t => decide (t ∈ ts)) then
  (eCallF fs [w, u] |>.bind fun r => Ev.lift (ownOut neg r)) st else none
def rOwnE (K : PySem.W.Frag) (G : Cl) (Wx : WX) (fs : Fn) (c : Nat) (ts : List Tg) (neg : Bool) : L2.St → R2 := fun σ x y H Q => ∃ R F L M w u, Rel K G.at_ R F L M H ∧ RepW K G.at_ F L w x ∧ RepW K G.at_ F L u y ∧ isCls M c w = true ∧ (∃ t ∈ ts, tgW M u = some t) ∧
  OutF K G.at_ R F L (fun v H' => ∃ b, v = .bl b ∧ Q (.bl (xor neg b)) H') (WE Wx σ) (fs [w, u] M)
theorem bel_ownEq {c : Nat} {ts : List Tg} {neg : Bool} {f h : Ev Res} (fb : FnB fs) (bf : Bel f) (bh : Bel h) : Bel (eOwnEq fs c ts neg f h) := (bel_evW bf).bind fun w => (bel_evW bh).bind fun u => fun st o st' hb e => by
  split at e
  · exact ((bel_callF fb [w, u]).bind fun r => .same fun st o st' e => by
      unfold Ev.lift at e; split at e <;> cases e; rfl) st o st' hb e
  · cases e
theorem tOwnEq_of {K : PySem.W.Frag} {c : Nat} {ts : List Tg} {neg : Bool} {f h : Ev Res} {σ : L2.St} {H : Hp} {Q : VK} (t : tE K G Wx (eOwnEq fs c ts neg f h) σ H Q) : tOpS (rOwnE K G Wx fs c ts neg) (tE K G Wx f) (tE K G Wx h) σ H Q := by
  obtain ⟨R, F, L, st, ok, o⟩ := t
  refine tE_W ok (OutP.bind (f := evW f) o fun w st1 F1 L1 H1 x1 ok1 o1 v rv => ?_)
  refine tE_W ok1 (OutP.bind (f := evW h) o1 fun u st2 F2 L2 H2 x2 ok2 o2 v2 ru => ?_)
  split at o2
  · rename_i hh
    rw [Bool.and_eq_true] at hh
    have ht : ∃ t ∈ ts, tgW st2.M u = some t := by
      cases e : tgW st2.M u with
      | none => rw [e] at hh; exact absurd hh.2 (by simp)
      | some t => rw [e] at hh; exact ⟨t, by simpa using hh.2, rfl⟩
    refine ⟨R, F2, L2, st2.M, w, u, ok2.rel, rv.ext x2, ru, hh.1, ht, ?_⟩
    have o3 : OutP K G Wx R F2 L2 σ (fun r _ _ _ H3 => ∃ b, r = .d (.bl b) ∧ Q (.bl (xor neg b)) H3) (eCallF fs [w, u] st2) := OutP.bind (f := eCallF fs [w, u]) o2 fun r st3 F3 L3 H3 x3 ok3 o3 => by
      obtain ⟨r', er, o4⟩ := OutP.lift o3
      unfold ownOut at er
      split at er
      · cases er; exact ⟨_, rfl, o4 F3 L3 H3 (.refl _ _) ok3 _ (.bl _)⟩
      · cases er
    exact call_out (Q := fun v H' => ∃ b, v = .bl b ∧ Q (.bl (xor neg b)) H') ok2 o3 fun r st3 F3 L3 H3 v x3 ok3 ⟨b, eb, p⟩ rr => by
      subst eb; cases rr; exact ⟨b, rfl, p⟩
  · exact o2.elim
theorem or_ownEq {c : Nat} {ts : List Tg} (q : EqOk X.K G.at_ c f ts) (F : FnZ z X.prog X.w X.K X.mg X.base (L2.CX X.prog X.w) k f fd ps (spF X.K G.at_ ps.length fs)) (h2 : ps.length = 2) (hr : Room k X.A) (hz : z = true → X.A.guards = some []) (tk : Takes X Wx) (hb : Binds X.K fd ps []) :
    OpS X (compareOp .Eq) (rOwnE X.K G Wx fs c ts false) := by
  intro pins s σ H x y v u Q I rx ry ⟨R, F0, L, M, w, uw, rel, r1, r2, hc, ⟨t, ht, et⟩, o⟩
  obtain ⟨a, dx, fl, rfl, ha⟩ := isCls_ok rel r1 hc
  obtain rfl : v = Value.ref a := rx
  obtain ⟨mA, J, _⟩ := ins_get I.hok ha
  obtain ⟨od, J, _⟩ := J.look
  obtain ⟨P, Z, p, _⟩ := kit_of I ry (tgW_ok rel r2 et (q.ins t ht))
  obtain ⟨m, hF⟩ := I.fr
  show wpAny (model X.prog X.w) X.A (richCompare .Eq (.ref a) u) (EP X pins σ Q) X.xe s
  refine PySem.W.cmp_K (op := .Eq) hr.units0 hF I.ok.mod.kin J (Z.ty _ _ I.kIn p) (q.nf t ht) q.eq q.fn ?_
  refine wpAny_mono (call_at rfl F hr hz tk hb (vs := [.ref a, y]) I (.cons rfl (.cons ry .nil)) (by simp [h2]) rel (.cons r1 (.cons r2 .nil)) o) (fun v' s' ⟨z', H', I', rz, b, ez, qz⟩ => ?_) fun _ _ y => y
  subst ez
  cases rz
  exact ⟨.bl _, H', I', rfl, by simpa using qz⟩
theorem or_ownNe {c : Nat} {ts : List Tg} (q : EqOk X.K G.at_ c f ts) (F : FnZ z X.prog X.w X.K X.mg X.base (L2.CX X.prog X.w) k f fd ps (spF X.K G.at_ ps.length fs)) (h2 : ps.length = 2) (hr : Room (k + 1) X.A) (hz : z = true → X.A.guards = some []) (tk : Takes X Wx) (hb : Binds X.K fd ps []) :
    OpS X (compareOp .NotEq) (rOwnE X.K G Wx fs c ts true) := by
  intro pins s σ H x y v u Q I rx ry ⟨R, F0, L, M, w, uw, rel, r1, r2, hc, ⟨t, ht, et⟩, o⟩
  obtain ⟨a, dx, fl, rfl, ha⟩ := isCls_ok rel r1 hc
  obtain rfl : v = Value.ref a := rx
  obtain ⟨mA, J, _⟩ := ins_get I.hok ha
  obtain ⟨od, J, _⟩ := J.look
  obtain ⟨P, Z, p, _⟩ := kit_of I ry (tgW_ok rel r2 et (q.ins t ht))
  obtain ⟨m, hF⟩ := I.fr
  have main : wpAny (model X.prog X.w) X.A (call (.builtin "object.__ne__") [.ref a, u]) (fun v s' => ∃ k, v = .bool k ∧ EP X pins σ Q (.bool k) s') X.xe s :=
    call_one hr.in1.units0 I.kIn J q.ob q.eq q.fn (wpAny_mono (call_at (A := X.A.in1) rfl F hr.in1 hz tk hb (vs := [.ref a, y]) I (.cons rfl (.cons ry .nil)) (by simp [h2]) rel (.cons r1 (.cons r2 .nil)) o) (fun v' s' ⟨z', H', I', rz, b, ez, qz⟩ => by
      subst ez
      cases rz
      exact ⟨b, rfl, !b, rfl, .bl (!b), H', I', rfl, by simpa using qz⟩) fun _ _ y => y)
  have one : wpAny (model X.prog X.w) X.A (tryCompare (.ref a) "__ne__" u) (fun r s' => ∃ v, r = some v ∧ EP X pins σ Q v s') X.xe s := by
    unfold tryCompare
    refine wpAny_bind (bound_bltn I.kIn J q.ne (by intro self; kernel_rfl) (wpAny_mono main (fun v' s' ⟨b, e1, hv⟩ => ?_) fun _ _ y => y))
    subst e1
    exact wpAny_pure ⟨_, rfl, hv⟩
  show wpAny (model X.prog X.w) X.A (richCompare .NotEq (.ref a) u) (EP X pins σ Q) X.xe s
  exact rich_of (tb := tgV G.at_ t) hr.units0 I.kIn J (Z.ty _ _ I.kIn p) (q.nf t ht) one
end
end Pm

set_option maxHeartbeats 2000000
/-! Q11: data that can be hashed -/
namespace Pm
open PySem PySem.Spec PyProof.Rows L2

mutual
inductive HR (h : Heap) : D → Value → Prop
  | int (i : Int) (t : Tok) : HR h (.int i) (.int i t)
  | str (x : Str) (t : Tok) : HR h (.str x) (.str x t)
  | tup {a : Addr} {o : Obj} {items : Array Value} {n : Nat} {ds : List D} : h.get? a = some o → o.cls = .type "tuple" → o.data = .seq items n → HRs h ds items.toList → HR h (.tup ds) (.ref a)
inductive HRs (h : Heap) : List D → List Value → Prop
  | nil : HRs h [] []
  | cons {d : D} {v : Value} {ds : List D} {vs : List Value} : HR h d v → HRs h ds vs → HRs h (d :: ds) (v :: vs)
end
mutual
def okH : Nat → D → Bool
  | _, .int _ => true
  | _, .str x => PyData.strOk x
  | n + 1, .tup xs => okHs n xs
  | _, _ => false
def okHs : Nat → List D → Bool
  | _, [] => true
  | n, x :: xs => okH n x && okHs n xs
end
theorem okHs_all (n : Nat) : ∀ xs : List D, okHs n xs = xs.all (okH n)
  | [] => by simp [okHs]
  | x :: xs => by simp [okHs, okHs_all n xs]
mutual
theorem okH_okD : ∀ (n : Nat) (d : D), okH n d = true → okD n d = true
  | n, .int i, h => by simp [okD]
  | n, .str x, h => by simpa [okH, okD] using h
  | n + 1, .tup xs, h => by simp only [okH] at h; simp only [okD]; exact okHs_okDs n xs h
  | 0, .tup xs, h => by simp [okH] at h
  | n, .non, h => by simp [okH] at h
  | n, .bl _, h => by simp [okH] at h
  | n, .lst _, h => by simp [okH] at h
  | n, .obj _ _, h => by simp [okH] at h
  | n, .ty _, h => by simp [okH] at h
  | n, .cls _, h => by simp [okH] at h
  | n, .scr _, h => by simp [okH] at h
theorem okHs_okDs : ∀ (n : Nat) (d : List D), okHs n d = true → okDs n d = true
  | n, [], h => by simp [okDs]
  | n, x :: xs, h => by
    simp only [okHs, Bool.and_eq_true] at h
    simp only [okDs, Bool.and_eq_true]
    exact ⟨okH_okD n x h.1, okHs_okDs n xs h.2⟩
end
mutual
/-- equal data are the same -/
theorem dEq_iff : ∀ (n m : Nat) (a b : D), okH n a = true → okH m b = true → (dEq a b = true ↔ a = b)
  | n, m, .int i, b, ha, hb => by cases b <;> simp [okH] at hb <;> simp [dEq]
  | n, m, .str i, b, ha, hb => by cases b <;> simp [okH] at hb <;> simp [dEq]
  | n + 1, m, .tup xs, b, ha, hb => by
    cases b with
    | tup ys =>
      cases m with
      | zero => simp [okH] at hb
      | succ m =>
        simp only [okH] at ha hb
        simp only [dEq]
        rw [dEqs_iff n m xs ys ha hb]
        exact ⟨fun h => by rw [h], fun h => by injection h⟩
    | _ => first | (cases m <;> simp [okH] at hb; done) | (cases m <;> simp [okH] at hb <;> simp [dEq])
  | 0, m, .tup xs, b, ha, hb => by simp [okH] at ha
  | n, m, .non, b, ha, hb => by simp [okH] at ha
  | n, m, .bl _, b, ha, hb => by simp [okH] at ha
  | n, m, .lst _, b, ha, hb => by simp [okH] at ha
  | n, m, .obj _ _, b, ha, hb => by simp [okH] at ha
  | n, m, .ty _, b, ha, hb => by simp [okH] at ha
  | n, m, .cls _, b, ha, hb => by simp [okH] at ha
  | n, m, .scr _, b, ha, hb => by simp [okH] at ha
theorem dEqs_iff : ∀ (n m : Nat) (a b : List D), okHs n a = true → okHs m b = true → (dEqs a b = true ↔ a = b)
  | n, m, [], [], ha, hb => by simp [dEqs]
  | n, m, [], y :: ys, ha, hb => by simp [dEqs]
  | n, m, x :: xs, [], ha, hb => by simp [dEqs]
  | n, m, x :: xs, y :: ys, ha, hb => by
    simp only [okHs, Bool.and_eq_true] at ha hb
    simp only [dEqs, Bool.and_eq_true, List.cons.injEq]
    rw [dEq_iff n m x y ha.1 hb.1, dEqs_iff n m xs ys ha.2 hb.2]
end
section
variable {h h' : Heap}
mutual
theorem HR.keep (k : ∀ b o, h.get? b = some o → h'.get? b = some o) : ∀ {d : D} {v : Value}, HR h d v → HR h' d v
  | _, _, .int i t => .int i t
  | _, _, .str x t => .str x t
  | _, _, .tup e1 e2 e3 r => .tup (k _ _ e1) e2 e3 (HRs.keep k r)
theorem HRs.keep (k : ∀ b o, h.get? b = some o → h'.get? b = some o) : ∀ {d : List D} {v : List Value}, HRs h d v → HRs h' d v
  | _, _, .nil => .nil
  | _, _, .cons r t => .cons (HR.keep k r) (HRs.keep k t)
end
mutual
/-- a set that changes is no tuple -/
theorem HR.same {a : Addr} {o : Obj} {es : Array (Int × Value)} {ep : Nat} {t : SetTable} (ho : h.get? a = some o) (hd : o.data = .set es ep t) (hs : Heap.SameBut a h h') : ∀ {d : D} {v : Value}, HR h d v → HR h' d v
  | _, _, .int i t => .int i t
  | _, _, .str x t => .str x t
  | _, _, .tup (a := b) (o := o') e1 e2 e3 r => .tup ((hs.2 b (by
      rintro rfl
      obtain rfl : o' = o := Option.some.inj (e1.symm.trans ho)
      rw [hd] at e3; exact nomatch e3)).trans e1) e2 e3 (HRs.same ho hd hs r)
theorem HRs.same {a : Addr} {o : Obj} {es : Array (Int × Value)} {ep : Nat} {t : SetTable} (ho : h.get? a = some o) (hd : o.data = .set es ep t) (hs : Heap.SameBut a h h') : ∀ {d : List D} {v : List Value}, HRs h d v → HRs h' d v
  | _, _, .nil => .nil
  | _, _, .cons r t => .cons (HR.same ho hd hs r) (HRs.same ho hd hs t)
end
mutual
theorem HR.reads : ∀ {d : D} {v : Value}, HR h d v → ∃ as, Reads h v (toPy d) as
  | _, _, .int i t => ⟨_, by simp only [toPy]; exact .int i t⟩
  | _, _, .str x t => ⟨_, by simp only [toPy]; exact .str x t⟩
  | _, _, .tup e1 e2 e3 r => by
    obtain ⟨as, q⟩ := HRs.reads r
    exact ⟨_, by simp only [toPy]; exact .tuple e1 e2 e3 q⟩
theorem HRs.reads : ∀ {d : List D} {v : List Value}, HRs h d v → ∃ as, ReadsAll h v (toPys d) as
  | _, _, .nil => ⟨_, by simp only [toPys]; exact .nil⟩
  | _, _, .cons r t => by
    obtain ⟨as, q⟩ := HR.reads r
    obtain ⟨bs, q2⟩ := HRs.reads t
    exact ⟨_, by simp only [toPys]; exact .cons q q2⟩
end
mutual
theorem HR.inj : ∀ {d e : D} {v : Value}, HR h d v → HR h e v → d = e
  | _, _, _, .int i t, k => by cases k; rfl
  | _, _, _, .str x t, k => by cases k; rfl
  | _, _, _, .tup e1 e2 e3 r, k => by
    cases k with
    | tup f1 f2 f3 q =>
      rw [e1] at f1; cases f1
      rw [e3] at f3; cases f3
      rw [HRs.inj r q]
theorem HRs.inj : ∀ {d e : List D} {v : List Value}, HRs h d v → HRs h e v → d = e
  | _, _, _, .nil, k => by cases k; rfl
  | _, _, _, .cons r t, k => by
    cases k with
    | cons r2 t2 => rw [HR.inj r r2, HRs.inj t t2]
end
end
section
variable {P : Program} {w : World} {A : Around} {E : Value → Shared → Prop} {s : Shared}
theorem eqBool_HR {n m : Nat} {a b : D} {u v : Value} {Q : Bool → Shared → Prop} (ha : okH n a = true) (hb : okH m b = true) (ra : HR s.heap a u) (rb : HR s.heap b v) (hn : n ≤ 64) (hu : A.units + 64 < cLine) (h : Q (dEq a b) s) : wpAny (model P w) A (eqBool u v) Q E s := by
  obtain ⟨as, r1⟩ := ra.reads
  obtain ⟨bs, r2⟩ := rb.reads
  have l1 := lay_ok n a (okH_okD n a ha)
  have l2 := lay_ok m b (okH_okD m b hb)
  refine SeqAt.eqBoolOverData P w A E s u v _ _ as bs Q r1 r2 l1.1 l2.1 ?_ ?_
  · have := Nat.le_trans (Nat.min_le_left (toPy a).depth (toPy b).depth) l1.2
    omega
  · rw [eqv_toPy n m a b (okH_okD n a ha) (okH_okD m b hb)]; exact h
mutual
def hashD (w : World) : D → Int
  | .int i => hashInt i
  | .str x => hashStr w x
  | .tup xs => reduceHash (Builtin.Tuple.tupleHashOf (hashDs w xs))
  | _ => 0
def hashDs (w : World) : List D → List Int
  | [] => []
  | x :: xs => hashD w x :: hashDs w xs
end
theorem HR.typeIs {a : Addr} {ds : List D} (r : HR s.heap (.tup ds) (.ref a)) : s.TypeIs (.ref a) "tuple" := by
  cases r with
  | tup e1 e2 e3 q => exact ⟨_, e1, e2⟩
theorem hash_HR : ∀ (n : Nat) {A : Around} {d : D} {v : Value} {s : Shared} {Q : Int → Shared → Prop}, okH n d = true → HR s.heap d v → A.units + n < cLine → (∀ tk, s.toks ≤ tk → Q (hashD w d) { s with toks := tk }) → wpAny (model P w) A (pyHash v) Q E s := by
  intro n
  induction n with
  | zero =>
    intro A d v s Q hd r hu q
    cases r with
    | int i t => exact wpAny_pyHash_int (by have := q (s.toks + 1) (Nat.le_succ _); simpa only [hashD] using this)
    | str x t => exact wpAny_pyHash_str (by have := q (s.toks + 1) (Nat.le_succ _); simpa only [hashD] using this)
    | tup _ _ _ _ => simp [okH] at hd
  | succ n ih =>
    intro A d v s Q hd r hu q
    cases r with
    | int i t => exact wpAny_pyHash_int (by have := q (s.toks + 1) (Nat.le_succ _); simpa only [hashD] using this)
    | str x t => exact wpAny_pyHash_str (by have := q (s.toks + 1) (Nat.le_succ _); simpa only [hashD] using this)
    | @tup a o items m ds ho hc hdt rs =>
      have hT : s.TypeIs (.ref a) "tuple" := ⟨_, ho, hc⟩
      simp only [okH] at hd
      unfold pyHash
      first | unfold pyHashByItsType | skip
      first | refine wpAny_bind (wpAny_cRoomFor_or (.inr (by omega)) ?_) | skip
      refine wpAny_bind (wpAny_specialOf hT PySem.F.slot_tuple_hash.lookup ?_)
      show wpAny _ _ (if (some (Value.builtin "tuple.__hash__") == some Value.none) = true then _ else _) Q E s
      rw [if_neg (by rw [beq_builtin_none]; exact Bool.false_ne_true)]
      refine wpAny_bind (wpAny_specialOf hT PySem.F.slot_tuple_hash.lookup ?_)
      show wpAny _ _ (callSpecialIfBoundUnlessNone? (.ref a) "__hash__" _ >>= _) Q E s
      refine wpAny_bind (wpAny_callSpecialIfBoundUnlessNone?_slot hT PySem.F.slot_tuple_hash (wpAny_call_entry PySem.F.slot_tuple_hash hT PySem.F.entry_tuple_hash ?_ (PySem.F.args_tuple_hash_1 _)))
      show wpAny _ _ (Builtin.Tuple.tupleItemsOf (.ref a) >>= _) _ _ s
      refine wpAny_bind (wpAny_tupleItemsOf ho hdt ?_)
      refine wpAny_bind ?_
      rw [← Array.forIn_toList]
      refine wpAny_forIn_list _
        (fun rest (b : Array Int) s' => ∃ done left, ds = done ++ left ∧ okHs n left = true ∧ HRs s.heap left rest ∧ b.toList = hashDs w done ∧ ∃ tk, s.toks ≤ tk ∧ s' = { s with toks := tk })
        _ ?_ ?_ _ _ ⟨[], ds, rfl, hd, rs, by simp [hashDs], s.toks, Nat.le_refl _, rfl⟩
      · rintro x rest b s' ⟨dn, left, rfl, hl, hrs, hb, tk, htk, rfl⟩
        cases hrs with
        | @cons d0 _ ds' _ r1 r2 =>
          simp only [okHs, Bool.and_eq_true] at hl
          have app : ∀ (l : List D) (y : D), hashDs w (l ++ [y]) = hashDs w l ++ [hashD w y] := fun l y => by induction l with
            | nil => simp [hashDs]
            | cons z l il => simp [hashDs, il]
          refine wpAny_bind (ih (s := { s with toks := tk }) hl.1 r1 (by show A.units + 1 + n < cLine; omega) fun tk2 htk2 => ?_)
          have ht2 : s.toks ≤ tk2 := Nat.le_trans htk htk2
          first
            | exact wpAny_pure ⟨dn ++ [d0], ds', by simp, hl.2, r2, by simp [app, hb], tk2, ht2, rfl⟩
            | exact wpAny_bind (wpAny_pure (wpAny_pure ⟨dn ++ [d0], ds', by simp, hl.2, r2, by simp [app, hb], tk2, ht2, rfl⟩))
      · rintro b s' ⟨dn, left, e, hl, hrs, hb, tk, htk, rfl⟩
        cases hrs
        rw [List.append_nil] at e
        subst e
        show wpAny _ _ (retInt (Builtin.Tuple.tupleHashOf b.toList)) _ _ _
        rw [hb]
        refine wpAny_ret_mkInt ?_
        have q' := q (tk + 1) (Nat.le_succ_of_le htk)
        simp only [hashD] at q'
        unfold reduceHash at q'
        show wpAny _ _ (if (decide (-(2 : Int) ^ 63 ≤ Builtin.Tuple.tupleHashOf (hashDs w ds)) && decide (Builtin.Tuple.tupleHashOf (hashDs w ds) < 2 ^ 63)) = true then _ else _) Q E _
        by_cases hr : (decide (-(2 : Int) ^ 63 ≤ Builtin.Tuple.tupleHashOf (hashDs w ds)) && decide (Builtin.Tuple.tupleHashOf (hashDs w ds) < 2 ^ 63)) = true
        · rw [if_pos hr] at q' ⊢
          exact wpAny_pure q'
        · rw [if_neg hr] at q' ⊢
          exact wpAny_bind (wpAny_rule (wpAny_pure q'))
/-- a loop over hashable items that leaves as soon as one item says so: none does -/
theorem HRs.all {h : Heap} : ∀ {ds : List D} {vs : List Value}, HRs h ds vs → ∀ v ∈ vs, ∃ d ∈ ds, HR h d v
  | _, _, .cons r t, v, hv => by
    rcases List.mem_cons.mp hv with rfl | hv
    · exact ⟨_, List.mem_cons_self, r⟩
    · obtain ⟨d, hd, q⟩ := HRs.all t v hv; exact ⟨d, List.mem_cons_of_mem _ hd, q⟩
theorem quiet_HR : ∀ (n : Nat) {d : D} {v : Value} {s : Shared} {Q : Bool → Shared → Prop}, okH n d = true → HR s.heap d v → Q true s → wpAny (model P w) A (eqIsQuiet n v) Q E s := by
  intro n
  induction n with
  | zero =>
    intro d v s Q hd r q
    cases r with
    | tup _ _ _ _ => simp [okH] at hd
    | _ => unfold eqIsQuiet; exact wpAny_pure q
  | succ n ih =>
    intro d v s Q hd r q
    cases r with
    | @tup a o items m ds ho hc hdt rs =>
      have hT : s.TypeIs (.ref a) "tuple" := ⟨_, ho, hc⟩
      simp only [okH, okHs_all, List.all_eq_true] at hd
      unfold eqIsQuiet
      refine wpAny_bind (wpAny_specialOf hT PySem.F.slot_tuple_eq.lookup ?_)
      show wpAny _ _ (isInstance (.ref a) (.type "tuple") >>= _) _ _ s
      refine wpAny_bind (wpAny_isInstance hT isSubtype_tuple_tuple ?_)
      simp only [Bool.not_true, Bool.false_eq_true, if_false]
      refine wpAny_bind (wpAny_seqItems ho hdt (wpAny_bind ?_))
      show wpAny _ _ (forIn items _ _) _ _ s
      rw [← Array.forIn_toList]
      refine wpAny_forIn_list _ (fun rest r s' => r.1 = none ∧ s' = s ∧ ∀ v ∈ rest, ∃ d ∈ ds, HR s.heap d v) _ ?_ ?_ _ _ ⟨rfl, rfl, rs.all⟩
      · rintro v rest r s' ⟨hr, rfl, hall⟩
        obtain ⟨d0, hd0, r0⟩ := hall v List.mem_cons_self
        refine wpAny_bind (ih (hd d0 hd0) r0 ?_)
        simp only [Bool.not_true, Bool.false_eq_true, if_false]
        exact wpAny_pure ⟨rfl, rfl, fun u hu' => hall u (List.mem_cons_of_mem _ hu')⟩
      · rintro ⟨r1, r2⟩ s' ⟨hr, rfl, _⟩
        simp only at hr
        subst hr
        exact wpAny_pure q
    | _ => unfold eqIsQuiet; exact wpAny_pure q
theorem noClass_HR : ∀ (n : Nat) {d : D} {v : Value} {s : Shared} {Q : Bool → Shared → Prop}, okH n d = true → HR s.heap d v → Q false s → wpAny (model P w) A (ofAClassStatement n v) Q E s := by
  intro n
  induction n with
  | zero =>
    intro d v s Q hd r q
    cases r with
    | tup _ _ _ _ => simp [okH] at hd
    | _ => unfold ofAClassStatement; exact wpAny_pure q
  | succ n ih =>
    intro d v s Q hd r q
    cases r with
    | @tup a o items m ds ho hc hdt rs =>
      have hT : s.TypeIs (.ref a) "tuple" := ⟨_, ho, hc⟩
      simp only [okH, okHs_all, List.all_eq_true] at hd
      unfold ofAClassStatement
      refine wpAny_bind (wpAny_typeOf hT ?_)
      dsimp only
      have e : (("tuple" : String) == "tuple") = true := by decide
      simp only [e, if_true, Bool.not_true, Bool.false_eq_true, if_false]
      try refine wpAny_bind (wpAny_pure ?_)
      try simp only [Bool.not_true, Bool.false_eq_true, if_false]
      show wpAny _ _ (seqItems? (.ref a) >>= _) _ _ s
      refine wpAny_bind (wpAny_seqItems ho hdt ?_)
      dsimp only
      refine wpAny_bind ?_
      show wpAny _ _ (forIn items _ _) _ _ s
      rw [← Array.forIn_toList]
      refine wpAny_forIn_list _ (fun rest r s' => r.1 = none ∧ s' = s ∧ ∀ v ∈ rest, ∃ d ∈ ds, HR s.heap d v) _ ?_ ?_ _ _ ⟨rfl, rfl, rs.all⟩
      · rintro v rest r s' ⟨hr, rfl, hall⟩
        obtain ⟨d0, hd0, r0⟩ := hall v List.mem_cons_self
        refine wpAny_bind (ih (hd d0 hd0) r0 ?_)
        simp only [Bool.false_eq_true, if_false]
        exact wpAny_pure ⟨rfl, rfl, fun u hu' => hall u (List.mem_cons_of_mem _ hu')⟩
      · rintro ⟨r1, r2⟩ s' ⟨hr, rfl, _⟩
        simp only at hr
        subst hr
        exact wpAny_pure q
    | _ => unfold ofAClassStatement; exact wpAny_pure q
theorem byVal_HR : ∀ (n : Nat) {d : D} {v : Value} {s : Shared} {Q : Bool → Shared → Prop}, okH n d = true → HR s.heap d v → (∀ b, Q b s) → wpAny (model P w) A (hashByValue n v) Q E s := by
  intro n
  induction n with
  | zero =>
    intro d v s Q hd r q
    cases r with
    | tup _ _ _ _ => simp [okH] at hd
    | _ => unfold hashByValue; exact wpAny_pure (q _)
  | succ n ih =>
    intro d v s Q hd r q
    cases r with
    | @tup a o items m ds ho hc hdt rs =>
      have hT : s.TypeIs (.ref a) "tuple" := ⟨_, ho, hc⟩
      simp only [okH, okHs_all, List.all_eq_true] at hd
      unfold hashByValue
      refine wpAny_bind (wpAny_specialOf hT PySem.F.slot_tuple_hash.lookup ?_)
      show wpAny _ _ (seqItems? (.ref a) >>= _) _ _ s
      refine wpAny_bind (wpAny_seqItems ho hdt ?_)
      refine wpAny_bind ?_
      show wpAny _ _ (forIn items _ _) _ _ s
      rw [← Array.forIn_toList]
      refine wpAny_forIn_list _ (fun rest r s' => r.1 = none ∧ s' = s ∧ ∀ v ∈ rest, ∃ d ∈ ds, HR s.heap d v) _ ?_ ?_ _ _ ⟨rfl, rfl, rs.all⟩
      · rintro v rest r s' ⟨hr, rfl, hall⟩
        obtain ⟨d0, hd0, r0⟩ := hall v List.mem_cons_self
        refine wpAny_bind (ih (hd d0 hd0) r0 fun b => ?_)
        cases b with
        | true =>
          simp only [Bool.not_true, Bool.false_eq_true, if_false]
          exact wpAny_pure ⟨rfl, rfl, fun u hu' => hall u (List.mem_cons_of_mem _ hu')⟩
        | false =>
          simp only [Bool.not_false, if_true]
          first
            | exact wpAny_pure (wpAny_pure (q _))
            | exact wpAny_bind (wpAny_pure (wpAny_pure (wpAny_pure (q _))))
            | exact wpAny_bind (wpAny_pure (wpAny_pure (q _)))
            | exact wpAny_pure (q _)
      · rintro ⟨r1, r2⟩ s' ⟨hr, rfl, _⟩
        simp only at hr
        subst hr
        exact wpAny_pure (q _)
    | _ => unfold hashByValue; exact wpAny_pure (q _)
end
end Pm

set_option maxHeartbeats 2000000
/-! Q12: sets of tuples -/
namespace Pm
open PySem PySem.Spec PyProof.Rows L2

/-- where a search for this hash begins -/
abbrev pr0 (t : SetTable) (z : Int) : SetTable.Probe := runAt t.mask (SetTable.bits z % (t.mask + 1)) (SetTable.bits z)
abbrev rowsX (w : World) (L : List (Value × D)) : List (Int × Value) := L.map fun p => (hashD w p.2, p.1)
/-- a set whose members are tuples -/
structure SetX (P : Program) (w : World) (h : Heap) (a : Addr) (L : List (Value × D)) (es : Array (Int × Value)) (ep : Nat) (t : SetTable) : Prop where
  ob : ∃ o, h.get? a = some o ∧ o.ExactSet ∧ o.data = .set es ep t
  rows : es.toList = rowsX w L
  tab : TabOk t (L.map fun p => hashD w p.2)
  nd : (L.map (·.2)).Nodup
  mem : ∀ p ∈ L, HR h p.2 p.1 ∧ okH 8 p.2 = true ∧ ∃ b, p.1 = .ref b
  led : w.params.followText "set-order" = true ∨ t.led = true
  room : L.length * 5 < t.mask * 3
  few : L.length < 64
section
variable {P : Program} {w : World} {A : Around} {E : Value → Shared → Prop} {s : Shared} {a : Addr} {L : List (Value × D)} {es : Array (Int × Value)} {ep : Nat} {t : SetTable}
theorem rowsX_len (w : World) (L : List (Value × D)) : (rowsX w L).length = L.length := by simp [rowsX]
theorem SetX.sz {h : Heap} (R : SetX P w h a L es ep t) : es.size = L.length := by rw [← Array.length_toList, R.rows, rowsX_len]
theorem SetX.fit {h : Heap} (R : SetX P w h a L es ep t) : t.fits es.size = true := by
  have z1 := R.tab.sz
  have z2 := R.sz
  have z3 := R.room
  rw [List.length_map] at z1
  unfold SetTable.fits SetTable.fill
  rw [R.tab.dm, Bool.and_eq_true, beq_iff_eq, decide_eq_true_eq]
  exact ⟨by omega, by show t.place.size + 0 ≤ t.mask; omega⟩
theorem SetX.row (R : SetX P w s.heap a L es ep t) {i : Nat} {p : Value × D} (e : L[i]? = some p) : es[i]? = some (hashD w p.2, p.1) := by
  rw [← Array.getElem?_toList, R.rows]
  simp [rowsX, e]
theorem SetX.ngw (R : SetX P w s.heap a L es ep t) : ¬ t.gaveWay = true := by
  unfold SetTable.gaveWay
  rw [mask_odd R.tab.mok]; decide
theorem nth_dm (m : Nat) : ∀ (n : Nat) (p : SetTable.Probe), p.dummy = none → (nth m p n).dummy = none
  | 0, p, h => h
  | n + 1, p, h => nth_dm m n (adv m p) (by unfold adv; split <;> exact h)
/-- a search among tuples shows nothing -/
theorem seenX {x : Value} {d : D} {Q : Bool → Shared → Prop} (hx : HR s.heap d x) (kx : okH 8 d = true) (rx : ∃ b, x = .ref b) {ys : List Value} (hy : ∀ y ∈ ys, ∃ e, HR s.heap e y ∧ okH 8 e = true ∧ ∃ b, y = .ref b) (h : Q false s) :
    wpAny (model P w) A (searchCouldBeSeen x ys) Q E s := by
  obtain ⟨bx, rfl⟩ := rx
  unfold searchCouldBeSeen
  refine wpAny_bind (wpAny_forIn_list _ (fun rest r s' => r.1 = none ∧ s' = s ∧ ∀ y ∈ rest, ∃ e, HR s.heap e y ∧ okH 8 e = true ∧ ∃ b, y = .ref b) _ ?_ ?_ _ _ ⟨rfl, rfl, hy⟩)
  · rintro v rest r s' ⟨hr, rfl, al⟩
    obtain ⟨e, he, ke, c, rfl⟩ := al v List.mem_cons_self
    have al' := fun u hu => al u (List.mem_cons_of_mem _ hu)
    dsimp only
    by_cases q : (bx == c || (carriedByValue (.ref bx) && carriedByValue (.ref c))) = true
    · exact wp_if_pos q (wpAny_pure ⟨rfl, rfl, al'⟩)
    · refine wp_if_neg q (wpAny_bind (quiet_HR 8 kx hx ?_))
      simp only [Bool.not_true, Bool.false_eq_true, if_false]
      refine wpAny_bind (quiet_HR 8 ke he ?_)
      simp only [Bool.not_true, Bool.false_eq_true, if_false]
      refine wpAny_bind (noClass_HR 8 kx hx ?_)
      simp only [Bool.false_eq_true, if_false]
      refine wpAny_bind (noClass_HR 8 ke he ?_)
      simp only [Bool.false_eq_true, if_false]
      exact wpAny_pure ⟨rfl, rfl, al'⟩
  · rintro ⟨r1, r2⟩ s' ⟨hr, rfl, _⟩
    simp only at hr; subst hr
    exact wpAny_pure h
/-- THE SEARCH -/
theorem seekX (R : SetX P w s.heap a L es ep t) {x : Value} {d : D} (hx : HR s.heap d x) (kx : okH 8 d = true) (rx : ∃ b, x = .ref b) (hu : A.units + 64 < cLine) {N : Nat} (hN1 : N < 10 * SetTable.turns t.mask)
    (hN : way t.mask (hashD w d) N ∉ t.place.toList) (hNb : ∀ c, c < N → way t.mask (hashD w d) c ∈ t.place.toList) {Q : SetFound → Shared → Prop} (yes : d ∈ L.map (·.2) → Q (.there none) s) (no : d ∉ L.map (·.2) → Q (.free (way t.mask (hashD w d) N) false) s) :
    ∀ (f c : Nat) (stand : Option SetTable.Probe), stand.getD (t.probeStart (hashD w d)) = nth t.mask (pr0 t (hashD w d)) c → c ≤ N → N - c < f →
      (∀ (i : Nat) p, L[i]? = some p → p.2 = d → ∃ c', c ≤ c' ∧ c' < N ∧ t.place.toList[i]? = some (way t.mask (hashD w d) c')) → wpAny (model P w) A (setSearchFrom a x (hashD w d) true f stand) Q E s := by
  intro f
  induction f with
  | zero => intro c stand _ _ hf; exact absurd hf (Nat.not_lt_zero _)
  | succ f ih =>
    intro c stand hst hc hf left
    obtain ⟨o, ho, hex, hd⟩ := R.ob
    rw [setSearchFrom_succ]
    refine wpAny_bind (wpAny_setState_of ho hd R.fit ?_)
    dsimp only
    refine wp_if_neg R.ngw ?_
    try refine wpAny_bind (wpAny_pure ?_)
    have sh : ∀ q, nth t.mask (nth t.mask (pr0 t (hashD w d)) c) q = nth t.mask (pr0 t (hashD w d)) (c + q) := fun q => (nth_add t.mask c _ q).symm
    have wj : ∀ q, (nth t.mask (nth t.mask (pr0 t (hashD w d)) c) q).j = way t.mask (hashD w d) (c + q) := fun q => by rw [sh]
    have hsum : c + (N - c) = N := by omega
    have spec := go_spec t R.tab.ris R.tab.dm (fun i => (es[i]?.map (·.1)).getD 0) (hashD w d) (10 * SetTable.turns t.mask) (N - c) _ (nth_dm t.mask c (pr0 t (hashD w d)) rfl) (by omega)
      (fun q hq => by rw [wj]; exact hNb (c + q) (by omega)) (by rw [wj, hsum]; exact hN)
    have hat : ∀ (i : Nat) p, L[i]? = some p → (es[i]?.map (·.1)).getD 0 = hashD w p.2 := fun i p hp => by rw [R.row hp]; rfl
    rcases spec with ⟨q, i, hq, hi, hh, hno, hpr⟩ | ⟨hno, hpr⟩
    · have hpr' : t.probe (fun i => (es[i]?.map (·.1)).getD 0) (hashD w d) (stand.getD (t.probeStart (hashD w d))) = some (.candidate (way t.mask (hashD w d) (c + q)) i (nth t.mask (pr0 t (hashD w d)) (c + (q + 1)))) := by
        rw [hst, ← wj, ← sh]; exact hpr
      rw [hpr']
      dsimp only
      rw [wj] at hi
      have hil : i < L.length := by
        have u1 := (List.getElem?_eq_some_iff.mp hi).1
        have u2 := R.tab.sz
        rw [List.length_map] at u2
        rw [Array.length_toList] at u1
        omega
      obtain ⟨p, hp⟩ : ∃ p, L[i]? = some p := ⟨_, List.getElem?_eq_getElem hil⟩
      have pm : p ∈ L := List.mem_of_getElem? hp
      obtain ⟨hpr2, kp, bp, ep'⟩ := R.mem p pm
      have go : wpAny (model P w) A (searchRest a x (hashD w d) true f es t (way t.mask (hashD w d) (c + q)) i (nth t.mask (pr0 t (hashD w d)) (c + (q + 1)))) Q E s := by
        unfold searchRest
        rw [R.row hp]
        dsimp only
        refine wpAny_bind (wpAny_holding (eqBool_HR kp kx hpr2 hx (by decide) hu ?_))
        refine wpAny_bind (wpAny_setState_of ho hd R.fit ?_)
        dsimp only
        by_cases hkk : p.2 = d
        · have e1 : dEq p.2 d = true := (dEq_iff 8 8 _ _ kp kx).mpr hkk
          rw [e1]
          exact wp_if_pos rfl (wpAny_pure (yes (List.mem_map.mpr ⟨p, pm, hkk⟩)))
        · have e1 : dEq p.2 d = false := by
            cases z : dEq p.2 d with
            | false => rfl
            | true => exact absurd ((dEq_iff 8 8 _ _ kp kx).mp z) hkk
          rw [e1]
          refine wp_if_neg (by decide) ?_
          try refine wpAny_bind (wpAny_pure ?_)
          rw [sameMem]
          dsimp only
          have hsl := slot_live R.tab.ris hi
          simp only [if_true, hsl, R.row hp]
          rw [ep']
          refine wpAny_bind (wpAny_isSame_ref_self (wpAny_bind (wpAny_pure ?_)))
          simp only [if_true]
          refine wp_if_neg (by decide) ?_
          refine ih (c + (q + 1)) _ rfl (by omega) (by omega) fun i0 p0 h0 hk0 => ?_
          obtain ⟨c', a1, a2, a3⟩ := left i0 p0 h0 hk0
          refine ⟨c', ?_, a2, a3⟩
          rcases Nat.lt_trichotomy c' (c + q) with z | z | z
          · exact absurd ((hat i0 p0 h0).trans (congrArg (hashD w) hk0)) (hno (c' - c) i0 (by omega) (by rw [wj, show c + (c' - c) = c' by omega]; exact a3))
          · rw [z] at a3
            have s0 := slot_live R.tab.ris a3
            rw [hsl] at s0
            injection s0 with s0
            rw [← s0, hp] at h0
            cases h0
            exact absurd hk0 hkk
          · omega
      by_cases hl : t.led = true
      · refine wp_if_neg (by simp [hl]) ?_
        try refine wpAny_bind (wpAny_pure ?_)
        exact go
      · refine wp_if_pos (by simp [hl]) ?_
        refine wpAny_bind (seenX hx kx rx (fun y hy => ?_) ?_)
        · obtain ⟨e, he, rfl⟩ := List.mem_map.mp hy
          have he2 : e ∈ es.toList := by
            have : e ∈ es ∧ e.1 = hashD w d := by simpa using he
            simpa using this.1
          rw [R.rows] at he2
          obtain ⟨p2, hp2, rfl⟩ := List.mem_map.mp he2
          exact ⟨p2.2, R.mem p2 hp2⟩
        · refine wp_if_neg (by decide) ?_
          try refine wpAny_bind (wpAny_pure ?_)
          exact go
    · have hpr' : t.probe (fun i => (es[i]?.map (·.1)).getD 0) (hashD w d) (stand.getD (t.probeStart (hashD w d))) = some (.empty (way t.mask (hashD w d) N) none) := by
        have e2 : way t.mask (hashD w d) N = (nth t.mask (nth t.mask (pr0 t (hashD w d)) c) (N - c)).j := by rw [wj, hsum]
        rw [hst, e2]; exact hpr
      rw [hpr']
      dsimp only
      refine wpAny_pure (no fun hm => ?_)
      obtain ⟨p0, h0, hk0⟩ := List.mem_map.mp hm
      obtain ⟨i0, hi0, e0⟩ := List.getElem_of_mem h0
      have h00 : L[i0]? = some p0 := by rw [List.getElem?_eq_getElem hi0, e0]
      obtain ⟨c', a1, a2, a3⟩ := left i0 p0 h00 hk0
      exact absurd ((hat i0 p0 h00).trans (congrArg (hashD w) hk0)) (hno (c' - c) i0 (by omega) (by rw [wj, show c + (c' - c) = c' by omega]; exact a3))
theorem askX (R : SetX P w s.heap a L es ep t) {x : Value} {d : D} (hx : HR s.heap d x) (kx : okH 8 d = true) (rx : ∃ b, x = .ref b) (hu : A.units + 64 < cLine) {Q : SetFound → Shared → Prop} (yes : d ∈ L.map (·.2) → Q (.there none) s)
    (no : ∀ N, d ∉ L.map (·.2) → way t.mask (hashD w d) N ∉ t.place.toList → (∀ c, c < N → way t.mask (hashD w d) c ∈ t.place.toList) → Q (.free (way t.mask (hashD w d) N) false) s) : wpAny (model P w) A (setSearch a x (hashD w d) true) Q E s := by
  have hroom := R.room
  obtain ⟨N, n1, n2, n3⟩ := R.tab.first (by rw [List.length_map]; omega) (hashD w d)
  have hbig : N < 100000 := by
    have : 10 * SetTable.turns t.mask ≤ 1420 := by
      unfold SetTable.turns
      rcases R.tab.mok with e | e | e <;> omega
    omega
  unfold setSearch
  refine seekX R hx kx rx hu n1 n2 n3 yes (fun hn => no N hn n2 n3) 100000 0 none rfl (Nat.zero_le _) (by omega) fun i p hp hk => ?_
  have hi : (L.map fun p => hashD w p.2)[i]? = some (hashD w d) := by rw [List.getElem?_map, hp, ← hk]; rfl
  have hil : i < t.place.toList.length := by
    have u1 := (List.getElem?_eq_some_iff.mp hp).1
    have u2 := R.tab.sz
    rw [List.length_map] at u2
    rw [Array.length_toList]; omega
  obtain ⟨c, hc, e⟩ := R.tab.before n2 hi (List.getElem?_eq_getElem hil)
  exact ⟨c, Nat.zero_le _, hc, by rw [List.getElem?_eq_getElem hil, e]⟩
/-! ### adding -/
theorem pick_rows (w : World) (L : List (Value × D)) (es : Array (Int × Value)) (he : es.toList = rowsX w L) : ∀ l : List Nat, (∀ i ∈ l, i < L.length) →
    l.filterMap (fun i => es[i]?) = rowsX w (l.filterMap fun i => L[i]?) ∧ ((l.filterMap fun i => L[i]?).map fun p => hashD w p.2) = l.map fun i => (es.map (·.1)).getD i 0
  | [], _ => ⟨rfl, rfl⟩
  | i :: l, h => by
    obtain ⟨q1, q2⟩ := pick_rows w L es he l fun j hj => h j (List.mem_cons_of_mem _ hj)
    have hi := h i List.mem_cons_self
    have ent : es[i]? = some (hashD w (L[i]).2, (L[i]).1) := by
      rw [← Array.getElem?_toList, he]; simp [rowsX, hi]
    have eL : L[i]? = some L[i] := List.getElem?_eq_getElem hi
    rw [List.filterMap_cons_some ent, List.filterMap_cons_some eL, q1]
    refine ⟨by simp [rowsX], ?_⟩
    rw [List.map_cons, List.map_cons, q2]
    have : (es.map (·.1)).getD i 0 = hashD w (L[i]).2 := by
      have z : (es.map (·.1))[i]? = some (hashD w (L[i]).2) := by rw [Array.getElem?_map, ent]; rfl
      simp [Array.getD_eq_getD_getElem?, z]
    rw [this]
theorem pick_all {α : Type} (L : List α) : ∀ n, n ≤ L.length → (List.range n).filterMap (fun i => L[i]?) = L.take n
  | 0, _ => by simp
  | n + 1, hn => by
    have hlt : n < L.length := hn
    rw [List.range_succ, List.filterMap_append, pick_all L n (Nat.le_of_lt hlt), List.take_succ, List.getElem?_eq_getElem hlt, List.filterMap_cons_some (List.getElem?_eq_getElem hlt)]
    rfl
theorem pick_order (w : World) (L : List (Value × D)) (es : Array (Int × Value)) (order : Array Nat) (he : es.toList = rowsX w L) (hp : order.toList.Perm (List.range L.length)) :
    ∃ L2, (order.filterMap (es[·]?)).toList = rowsX w L2 ∧ L2.Perm L ∧ (L2.map fun p => hashD w p.2) = order.toList.map fun i => (es.map (·.1)).getD i 0 := by
  obtain ⟨q1, q2⟩ := pick_rows w L es he order.toList fun i hi => List.mem_range.mp (hp.mem_iff.mp hi)
  refine ⟨_, by first | (rw [Array.toList_filterMap]; exact q1) | simpa using q1, ?_, q2⟩
  have z := hp.filterMap fun i => L[i]?
  rw [pick_all L _ (Nat.le_refl _), List.take_length] at z
  exact z
theorem rowsX_put (w : World) (L : List (Value × D)) (p : Nat) (x : Value) (d : D) : rowsX w (L.take p ++ (x, d) :: L.drop p) = (rowsX w L).take p ++ (hashD w d, x) :: (rowsX w L).drop p := by
  simp [rowsX, List.map_take, List.map_drop]
theorem memX_same {h h' : Heap} {o : Obj} {es : Array (Int × Value)} {ep : Nat} {t : SetTable} (ho : h.get? a = some o) (hd : o.data = .set es ep t) (hs : Heap.SameBut a h h') {L : List (Value × D)}
    (m : ∀ p ∈ L, HR h p.2 p.1 ∧ okH 8 p.2 = true ∧ ∃ b, p.1 = .ref b) : ∀ p ∈ L, HR h' p.2 p.1 ∧ okH 8 p.2 = true ∧ ∃ b, p.1 = .ref b := fun p hp => ⟨(m p hp).1.same ho hd hs, (m p hp).2⟩
theorem TabOk.off {t : SetTable} {hs : List Int} (T : TabOk t hs) : TabOk { t with plain := false } hs := ⟨T.ris, T.dm, T.sz, T.mok, T.bd, T.reach⟩
/-- laid anew, larger -/
theorem relayX {o : Obj} (ho : s.heap.get? a = some o) (hex : o.ExactSet) (hd : o.data = .set es ep t) (he : es.toList = rowsX w L) (hz : t.place.size = es.size) (hm : t.dummies = #[]) (hfl : es.size ≤ t.mask) (nd : (L.map (·.2)).Nodup)
    (m : ∀ p ∈ L, HR s.heap p.2 p.1 ∧ okH 8 p.2 = true ∧ ∃ b, p.1 = .ref b) (ld : w.params.followText "set-order" = true ∨ t.led = true) (few : L.length < 64) {wanted N : Nat} (hw : SetTable.sizeAbove wanted - 1 = N) (hN : MaskOk N)
    (hw2 : SetTable.sizeAbove wanted ≤ 128) (hn : L.length * 5 < N * 3) {Q : Unit → Shared → Prop} (hQ : ∀ h' L' es' ep' t', Heap.SameBut a s.heap h' → SetX P w h' a L' es' ep' t' → L'.Perm L → Q () { s with heap := h' }) :
    wpAny (model P w) A (setRelay a wanted) Q E s := by
  have hsl : es.size = L.length := by rw [← Array.length_toList, he, rowsX_len]
  have hfits : t.fits es.size = true := by
    unfold SetTable.fits SetTable.fill
    rw [hm, Bool.and_eq_true, beq_iff_eq, decide_eq_true_eq]
    exact ⟨by omega, by show t.place.size + 0 ≤ t.mask; omega⟩
  obtain ⟨t', order, e, hp, T, em, el, epl, ed⟩ := relaid_ok t (hs := es.map (·.1)) (wanted := wanted) hw hN (by rw [Array.size_map, hsl]; omega)
  rw [Array.size_map, hsl] at hp
  obtain ⟨L2, r1, r2, r3⟩ := pick_order w L es order he hp
  rw [← r3] at T
  have hs2 : (order.filterMap (es[·]?)).size = es.size := by rw [← Array.length_toList, r1, rowsX_len, r2.length_eq, hsl]
  rw [setRelay_eq]
  refine wpAny_bind (wpAny_setState_of ho hd hfits ?_)
  dsimp only
  refine wp_if_neg (by rw [sizeLine_eq]; omega) ?_
  try refine wpAny_bind (wpAny_pure ?_)
  rw [e]
  dsimp only
  refine wpAny_bind (wp_if_neg (by rw [hs2]; simp) ?_)
  try refine wpAny_bind (wpAny_pure ?_)
  refine wpAny_pure ?_
  dsimp only
  refine wpAny_storeSet_of ho hd ?_ (by rw [hs2, hsl, sizeLine_eq]; omega)
  have sb := Heap.SameBut.update s.heap a (Obj.putSet (order.filterMap (es[·]?)) t')
  refine hQ _ L2 _ (ep + 1) t' sb ⟨⟨_, store_at ho hd, ⟨hex.1, hex.2.1, hex.2.2⟩, rfl⟩, r1, T, (r2.map (·.2)).nodup_iff.mpr nd, memX_same ho hd sb fun p hp => m p (r2.mem_iff.mp hp), by rw [el]; exact ld, ?_, by rw [r2.length_eq]; exact few⟩ r2
  rw [r2.length_eq, em]; exact hn
/-- one more member, perhaps -/
theorem addX (R : SetX P w s.heap a L es ep t) {x : Value} {d : D} (hx : HR s.heap d x) (kx : okH 8 d = true) (rx : ∃ b, x = .ref b) (hu : A.units + 64 < cLine) (hfew : L.length + 1 < 64) {Q : Bool → Shared → Prop}
    (hQ : ∀ b h' L' es' ep' t', Heap.SameBut a s.heap h' → SetX P w h' a L' es' ep' t' → (d ∈ L.map (·.2) → L' = L) → (d ∉ L.map (·.2) → L'.Perm ((x, d) :: L)) → Q b { s with heap := h' }) :
    wpAny (model P w) A (setAddHashed a x (hashD w d)) Q E s := by
  obtain ⟨o, ho, hex, hd⟩ := R.ob
  have hsl := R.sz
  have hroom := R.room
  unfold setAddHashed
  refine wpAny_holding ?_
  rw [show (100000 : Nat) = 99999 + 1 from rfl, setAddHashedIn_succ]
  refine wpAny_bind (wpAny_setState_of ho hd R.fit ?_)
  dsimp only
  have nsc : byScan x es = false := by obtain ⟨b, rfl⟩ := rx; simp [byScan, Value.scannable]
  refine wp_if_neg (by rw [nsc]; decide) ?_
  try refine wpAny_bind (wpAny_pure ?_)
  refine wpAny_bind (askX R hx kx rx hu (fun hm => ?_) fun N hm hN hb => ?_)
  · dsimp only
    exact wpAny_pure (hQ false s.heap L es ep t (Heap.SameBut.refl a s.heap) R (fun _ => rfl) fun z => absurd hm z)
  · dsimp only
    refine wpAny_bind (wpAny_setState_of ho hd R.fit ?_)
    dsimp only
    obtain ⟨q1, q2, q3, q4, q5, q6, q7, q8, q9⟩ := R.tab.put hN hb
    generalize hpt : t.put (way t.mask (hashD w d) N) = pt at q1 q3 q4 q5 q6 q7 q8 q9 ⊢
    obtain ⟨t1, p⟩ := pt
    dsimp only at q1 q3 q4 q5 q6 q7 q8 q9 ⊢
    subst q1
    have rest : ∀ byV : Bool, wpAny (model P w) A (do
        storeSet a (SetTable.insertAt es (SetTable.below t.place (way t.mask (hashD w d) N)) (hashD w d, x)) (if byV = true then t1 else { t1 with plain := false })
        if (!false && (if byV = true then t1 else { t1 with plain := false }).tooFull) = true then do
          setRelay a (SetTable.grown (es.size + 1))
          pure true
        else pure true) Q E s := fun byV => by
      have T2 : TabOk (if byV = true then t1 else { t1 with plain := false }) ((L.map fun p => hashD w p.2).take (SetTable.below t.place (way t.mask (hashD w d) N)) ++ hashD w d :: (L.map fun p => hashD w p.2).drop (SetTable.below t.place (way t.mask (hashD w d) N))) := by
        cases byV with
        | true => exact q3
        | false => exact TabOk.off q3
      have m2 : (if byV = true then t1 else { t1 with plain := false }).mask = t.mask := by cases byV <;> exact q4
      have l2 : (if byV = true then t1 else { t1 with plain := false }).led = t.led := by cases byV <;> exact q5
      have f2 : (if byV = true then t1 else { t1 with plain := false }).fill = (L.map fun p => hashD w p.2).length + 1 := by cases byV <;> exact q9
      generalize (if byV = true then t1 else { t1 with plain := false } : SetTable) = t2 at T2 m2 l2 f2 ⊢
      have hin : (SetTable.insertAt es (SetTable.below t.place (way t.mask (hashD w d) N)) (hashD w d, x)).toList = rowsX w (L.take (SetTable.below t.place (way t.mask (hashD w d) N)) ++ (x, d) :: L.drop (SetTable.below t.place (way t.mask (hashD w d) N))) := by
        rw [SetTable.toList_insertAt, rowsX_put, R.rows]
      generalize SetTable.below t.place (way t.mask (hashD w d) N) = j at q2 T2 hin ⊢
      have pm : (L.take j ++ (x, d) :: L.drop j).Perm ((x, d) :: L) := by
        have h : (L.take j ++ (x, d) :: L.drop j).Perm ((x, d) :: (L.take j ++ L.drop j)) := List.perm_middle
        rwa [List.take_append_drop] at h
      have hlen : (L.take j ++ (x, d) :: L.drop j).length = L.length + 1 := pm.length_eq
      have hhs : (L.take j ++ (x, d) :: L.drop j).map (fun p => hashD w p.2) = (L.map fun p => hashD w p.2).take j ++ hashD w d :: (L.map fun p => hashD w p.2).drop j := by simp [List.map_take, List.map_drop]
      rw [← hhs] at T2
      have nd1 : ((L.take j ++ (x, d) :: L.drop j).map (·.2)).Nodup := (pm.map (·.2)).nodup_iff.mpr (by rw [List.map_cons]; exact List.nodup_cons.mpr ⟨hm, R.nd⟩)
      have hes : (SetTable.insertAt es j (hashD w d, x)).size = L.length + 1 := by rw [← Array.length_toList, hin, rowsX_len, hlen]
      generalize SetTable.insertAt es j (hashD w d, x) = es1 at hin hes ⊢
      generalize L.take j ++ (x, d) :: L.drop j = L1 at pm hlen T2 nd1 hin
      refine wpAny_bind (wpAny_storeSet_of ho hd ?_ (by rw [hes, sizeLine_eq]; omega))
      have sb := Heap.SameBut.update s.heap a (Obj.putSet es1 t2)
      have ho1 := store_at (es' := es1) (t' := t2) ho hd
      generalize s.heap.update a (Obj.putSet es1 t2) = h1 at sb ho1 ⊢
      have mem1 : ∀ p ∈ L1, HR h1 p.2 p.1 ∧ okH 8 p.2 = true ∧ ∃ b, p.1 = .ref b := fun p hp => by
        rcases List.mem_cons.mp (pm.mem_iff.mp hp) with e | hp
        · rw [e]; exact ⟨hx.same ho hd sb, kx, rx⟩
        · exact memX_same ho hd sb R.mem p hp
      have ld1 : w.params.followText "set-order" = true ∨ t2.led = true := by rw [l2]; exact R.led
      rw [List.length_map] at f2
      by_cases hf : t2.tooFull = true
      · have hfull : (L.length + 1) * 5 ≥ t2.mask * 3 := by
          have h := hf
          unfold SetTable.tooFull at h
          rwa [decide_eq_true_eq, f2] at h
        rw [m2] at hfull
        refine wp_if_pos (by simp [hf]) (wpAny_bind ?_)
        rw [hsl]
        have hz1 : t2.place.size = es1.size := by
          have z := T2.sz
          rw [List.length_map, hlen] at z
          rw [z, hes]
        have two : (t.mask = 7 ∧ L.length = 4) ∨ (t.mask = 31 ∧ L.length = 18) := by
          rcases R.tab.mok with e | e | e
          · exact .inl ⟨e, by rw [e] at hfull hroom; omega⟩
          · exact .inr ⟨e, by rw [e] at hfull hroom; omega⟩
          · exfalso; rw [e] at hfull; omega
        have go : ∀ M, SetTable.sizeAbove (SetTable.grown (L.length + 1)) - 1 = M → MaskOk M → SetTable.sizeAbove (SetTable.grown (L.length + 1)) ≤ 128 → (L.length + 1) * 5 < M * 3 →
            wpAny (model P w) A (setRelay a (SetTable.grown (L.length + 1))) (fun _ s' => wpAny (model P w) A (pure true) Q E s') E { s with heap := h1 } := fun M b1 b2 b3 b4 =>
          relayX (s := { s with heap := h1 }) ho1 ⟨hex.1, hex.2.1, hex.2.2⟩ rfl hin hz1 T2.dm (by rw [hes, m2]; rcases two with ⟨e, e2⟩ | ⟨e, e2⟩ <;> omega) nd1 mem1 ld1 (by rw [hlen]; exact hfew) b1 b2 b3 (by rw [hlen]; exact b4)
            fun h2 L2 es2 ep2 t2 sb2 R2 pm2 => wpAny_pure (hQ true h2 L2 es2 ep2 t2 (sb.trans sb2) R2 (fun z => absurd z hm) fun _ => pm2.trans pm)
        rcases two with ⟨_, e2⟩ | ⟨_, e2⟩
        · exact go 31 (by rw [e2, size_20]) (.inr (.inl rfl)) (by rw [e2, size_20]; decide) (by omega)
        · exact go 127 (by rw [e2, size_76]) (.inr (.inr rfl)) (by rw [e2, size_76]; decide) (by omega)
      · refine wp_if_neg (by simp [hf]) ?_
        refine wpAny_pure (hQ true h1 L1 es1 (ep + 1) t2 sb ⟨⟨_, ho1, ⟨hex.1, hex.2.1, hex.2.2⟩, rfl⟩, hin, T2, nd1, mem1, ld1, ?_, by rw [hlen]; exact hfew⟩ (fun z => absurd z hm) fun _ => pm)
        have h := hf
        unfold SetTable.tooFull at h
        rw [decide_eq_true_eq, f2] at h
        rw [hlen]; omega
    by_cases hpl : t1.plain = true
    · first
        | (refine wpAny_bind ?_; refine wp_if_pos hpl ?_; exact byVal_HR 8 kx hx fun b => rest b)
        | exact wp_if_pos hpl (wpAny_bind (byVal_HR 8 kx hx fun b => rest b))
    · first
        | (refine wpAny_bind ?_; refine wp_if_neg hpl ?_; exact wpAny_pure (rest true))
        | exact wp_if_neg hpl (rest true)
        | exact wp_if_neg hpl (wpAny_bind (wpAny_pure (rest true)))
end
end Pm

set_option maxHeartbeats 2000000
/-! Q13: sets of texts and whole numbers; what a set is made of, in general -/
namespace Pm
open PySem PySem.Spec PyProof.Rows L2

/-- a text or a whole number -/
def isSc : D → Bool
  | .int _ => true
  | .str _ => true
  | _ => false
def keyD : D → Key
  | .str x => .inr x
  | .int i => .inl i
  | _ => .inl 0
structure SetS (P : Program) (w : World) (h : Heap) (a : Addr) (L : List (Value × D)) (es : Array (Int × Value)) (ep : Nat) (t : SetTable) : Prop where
  ob : ∃ o, h.get? a = some o ∧ o.ExactSet ∧ o.data = .set es ep t
  rows : es.toList = rowsX w L
  nd : (L.map (·.2)).Nodup
  mem : ∀ p ∈ L, HR h p.2 p.1 ∧ okH 8 p.2 = true ∧ isSc p.2 = true
  led : w.params.followText "set-order" = true ∨ t.led = true
  ris : Ris t.place.toList
  fit : t.fits es.size = true
  few : L.length < 64
theorem HR.sc {h : Heap} {d : D} {v : Value} (r : HR h d v) (e : isSc d = true) : keyIs (keyD d) v = true ∧ v.scannable = true ∧ ∀ h', HR h' d v := by
  cases r with
  | int i t => exact ⟨keyIs_int i t, rfl, fun _ => .int i t⟩
  | str x t => exact ⟨keyIs_str x t, rfl, fun _ => .str x t⟩
  | tup _ _ _ _ => cases e
theorem keyD_inj {a b : D} (ha : isSc a = true) (hb : isSc b = true) (e : keyD a = keyD b) : a = b := by
  cases a <;> simp [isSc] at ha <;> cases b <;> simp [isSc] at hb <;> simp [keyD] at e <;> rw [e]
theorem hash_sc (P : Program) (w : World) {d : D} (h : isSc d = true) : (mixKind P w).hash (keyD d) = hashD w d := by
  cases d <;> simp [isSc] at h <;> simp only [keyD, hashD] <;> rfl
section
variable {P : Program} {w : World} {A : Around} {E : Value → Shared → Prop} {s : Shared} {a : Addr} {L : List (Value × D)} {es : Array (Int × Value)} {ep : Nat} {t : SetTable}
theorem rowsS_elems {h : Heap} {L : List (Value × D)} (m : ∀ p ∈ L, HR h p.2 p.1 ∧ okH 8 p.2 = true ∧ isSc p.2 = true) : ElemsOf (mixKind P w) (rowsX w L) := fun e he => by
  obtain ⟨p, hp, rfl⟩ := List.mem_map.mp he
  obtain ⟨r, _, sc⟩ := m p hp
  obtain ⟨k1, k2, _⟩ := r.sc sc
  exact ⟨⟨keyD p.2, k1, (hash_sc P w sc).symm⟩, k2⟩
theorem perm_rows {es1 : List (Int × Value)} : ∀ {es0 : List (Int × Value)} (_ : es1.Perm es0) (L0 : List (Value × D)), es0 = rowsX w L0 → ∃ L1, es1 = rowsX w L1 ∧ L1.Perm L0 := by
  intro es0 pm
  induction pm with
  | nil => intro L0 e; cases L0 with
    | nil => exact ⟨[], rfl, .refl _⟩
    | cons p r => simp [rowsX] at e
  | cons x _ ih =>
    intro L0 e
    cases L0 with
    | nil => simp [rowsX] at e
    | cons p r =>
      simp only [rowsX, List.map_cons, List.cons.injEq] at e
      obtain ⟨L1, h1, h2⟩ := ih r e.2
      exact ⟨p :: L1, by rw [h1, e.1]; simp [rowsX], h2.cons p⟩
  | swap x y l =>
    intro L0 e
    match L0, e with
    | p :: q :: r, e =>
      simp only [rowsX, List.map_cons, List.cons.injEq] at e
      exact ⟨q :: p :: r, by simp [rowsX, e.1, e.2.1, e.2.2], .swap _ _ _⟩
    | [_], e => simp [rowsX] at e
    | [], e => simp [rowsX] at e
  | trans _ _ ih1 ih2 =>
    intro L0 e
    obtain ⟨L1, h1, h2⟩ := ih2 L0 e
    obtain ⟨L2, h3, h4⟩ := ih1 L1 h1
    exact ⟨L2, h3, h4.trans h2⟩
theorem tailS {g : Bool → Sem Unit} (hg : ∀ (b : Bool) (s₁ : Shared) (Q' : Unit → Shared → Prop), Q' () s₁ → wpAny (model P w) A (g b) Q' E s₁)
    {o : Obj} (ho : s.heap.get? a = some o) (hex : o.ExactSet) (hd : o.data = .set es ep t) {L1 : List (Value × D)} {es1 : Array (Int × Value)} {t2 : SetTable} (he : es1.toList = rowsX w L1) (nd1 : (L1.map (·.2)).Nodup)
    (m1 : ∀ p ∈ L1, HR s.heap p.2 p.1 ∧ okH 8 p.2 = true ∧ isSc p.2 = true) (few : L1.length < 64) (hf2 : t2.fits es1.size = true) (hr : Ris t2.place.toList) (hl : w.params.followText "set-order" = true ∨ t2.led = true) {wasDummy : Bool} {R : Option Bool → Shared → Prop}
    (hR : ∀ h' L' es' ep' t', Heap.SameBut a s.heap h' → SetS P w h' a L' es' ep' t' → L'.Perm L1 → R (some true) { s with heap := h' }) :
    wpAny (model P w) A (do
        storeSet a es1 t2
        if (!wasDummy && t2.tooFull) = true then do
            g (relayAll t2 es1 (SetTable.grown es1.size)).2.2
            storeSet a (relayAll t2 es1 (SetTable.grown es1.size)).1 (relayAll t2 es1 (SetTable.grown es1.size)).2.1
            pure (some true)
          else pure (some true)) R E s := by
  have hz : es1.size = L1.length := by rw [← Array.length_toList, he, rowsX_len]
  have anyH : ∀ h', ∀ p ∈ L1, HR h' p.2 p.1 ∧ okH 8 p.2 = true ∧ isSc p.2 = true := fun h' p hp => ⟨((m1 p hp).1.sc (m1 p hp).2.2).2.2 h', (m1 p hp).2⟩
  refine wpAny_bind (wpAny_storeSet_of ho hd ?_ (by rw [hz, sizeLine_eq]; omega))
  have ho1 := store_at (es' := es1) (t' := t2) ho hd
  have sb1 := Heap.SameBut.update s.heap a (Obj.putSet es1 t2)
  split
  · have pm := relayAll_perm t2 es1 (SetTable.grown es1.size)
    have hf3 := relayAll_fits t2 es1 (SetTable.grown es1.size)
    have hr3 := relayAll_ris t2 es1 (SetTable.grown es1.size)
    have hl3 := relayAll_led t2 es1 (SetTable.grown es1.size)
    generalize relayAll t2 es1 (SetTable.grown es1.size) = Z at pm hf3 hr3 hl3 ⊢
    obtain ⟨es2, t3, gave⟩ := Z
    dsimp only at pm hf3 hr3 hl3 ⊢
    obtain ⟨L2, e2, pm2⟩ := perm_rows pm L1 he
    have hz2 : es2.size = L2.length := by rw [← Array.length_toList, e2, rowsX_len]
    refine wpAny_bind (hg _ _ _ ?_)
    refine wpAny_bind (wpAny_storeSet_of ho1 rfl ?_ (by rw [hz2, pm2.length_eq, sizeLine_eq]; omega))
    have ho2 := store_at (es' := es2) (t' := t3) ho1 rfl
    refine wpAny_pure (hR _ L2 es2 _ t3 (sb1.trans (Heap.SameBut.update _ a _)) ⟨⟨_, ho2, hex, rfl⟩, e2, (pm2.map (·.2)).nodup_iff.mpr nd1, fun p hp => anyH _ p (pm2.mem_iff.mp hp), hl.imp id fun z => by rw [hl3]; exact z, hr3, hf3, by rw [pm2.length_eq]; exact few⟩ pm2)
  · exact wpAny_pure (hR _ L1 es1 _ t2 sb1 ⟨⟨_, ho1, hex, rfl⟩, he, nd1, fun p hp => anyH _ p hp, hl, hr, hf2, few⟩ (.refl _))
theorem addS (R : SetS P w s.heap a L es ep t) {x : Value} {d : D} (hx : HR s.heap d x) (kx : okH 8 d = true) (sx : isSc d = true) (hfew : L.length + 1 < 64) {Q : Bool → Shared → Prop}
    (hQ : ∀ b h' L' es' ep' t', Heap.SameBut a s.heap h' → SetS P w h' a L' es' ep' t' → (d ∈ L.map (·.2) → L' = L) → (d ∉ L.map (·.2) → L'.Perm ((x, d) :: L)) → Q b { s with heap := h' }) :
    wpAny (model P w) A (setAddHashed a x (hashD w d)) Q E s := by
  obtain ⟨o, ho, hex, hd⟩ := R.ob
  have hf := R.fit
  obtain ⟨hkey, hsc, _⟩ := hx.sc sx
  have hel : ElemsOf (mixKind P w) es.toList := by rw [R.rows]; exact rowsS_elems R.mem
  have hz : es.size = L.length := by rw [← Array.length_toList, R.rows, rowsX_len]
  have hb : es.size < scanBound := by have := R.few; rw [hz]; unfold scanBound; omega
  rw [← hash_sc P w sx]
  unfold setAddHashed setAddHashedIn
  refine wpAny_holding (wpAny_bind (wpAny_setState_of ho hd hf ?_))
  dsimp only
  rw [byScan_of hsc hb hel]
  simp only [↓reduceIte]
  unfold setAddByScan
  refine wpAny_bind (wpAny_bind (wpAny_rule (wpAny_bind (wpAny_setScan_of hkey ho hd hf hel ?_))))
  cases hfi : List.findIdx? (fun e => (mixKind P w).is (keyD d) e.2) es.toList with
  | some j =>
    dsimp only
    obtain ⟨hj, pj, _⟩ := List.findIdx?_eq_some_iff_getElem.mp hfi
    have hin : d ∈ L.map (·.2) := by
      have hm : es.toList[j] ∈ rowsX w L := by rw [← R.rows]; exact List.getElem_mem hj
      obtain ⟨p, hp, e⟩ := List.mem_map.mp hm
      rw [← e] at pj
      obtain ⟨r, _, sc⟩ := R.mem p hp
      have := (mixKind P w).inj p.1 (keyD p.2) (keyD d) (r.sc sc).1 pj
      exact List.mem_map.mpr ⟨p, hp, keyD_inj sc sx this⟩
    exact wpAny_pure (wpAny_pure (hQ false s.heap L es ep t (Heap.SameBut.refl a s.heap) R (fun _ => rfl) fun z => absurd hin z))
  | none =>
    dsimp only
    have hnk : d ∉ L.map (·.2) := fun z => by
      obtain ⟨p, hp, e⟩ := List.mem_map.mp z
      have c := List.findIdx?_eq_none_iff.mp hfi (hashD w p.2, p.1) (by rw [R.rows]; exact List.mem_map.mpr ⟨p, hp, rfl⟩)
      obtain ⟨r, _, sc⟩ := R.mem p hp
      have q := (r.sc sc).1
      rw [e] at q
      have q' : (mixKind P w).is (keyD d) p.1 = true := q
      rw [q'] at c; cases c
    have hgw : ∀ (b : Bool) {s₁ : Shared} {Q' : Unit → Shared → Prop}, Q' () s₁ → wpAny (model P w) A (match b with | true => rule "set.scan.the-table-gave-way" | false => pure ()) Q' E s₁ :=
      fun b s₁ Q' q => by cases b <;> first | exact wpAny_pure q | exact wpAny_rule q
    have pm := layNew_perm t es ((mixKind P w).hash (keyD d)) x
    have hf1 := layNew_fits t es ((mixKind P w).hash (keyD d)) x
    have hr1 := layNew_ris t es ((mixKind P w).hash (keyD d)) x R.ris
    have hl1 := layNew_led t es ((mixKind P w).hash (keyD d)) x
    generalize layNew t es ((mixKind P w).hash (keyD d)) x = Z at pm hf1 hr1 hl1 ⊢
    obtain ⟨es1, t1, wasDummy, gave⟩ := Z
    dsimp only at pm hf1 hr1 hl1 ⊢
    rw [Array.toList_push] at pm
    obtain ⟨L1, e1, pm1⟩ := perm_rows (w := w) (pm.trans (List.perm_append_singleton _ _)) ((x, d) :: L) (by rw [R.rows, hash_sc P w sx]; simp [rowsX])
    have nd1 : (L1.map (·.2)).Nodup := (pm1.map (·.2)).nodup_iff.mpr (by rw [List.map_cons]; exact List.nodup_cons.mpr ⟨hnk, R.nd⟩)
    have m1 : ∀ p ∈ L1, HR s.heap p.2 p.1 ∧ okH 8 p.2 = true ∧ isSc p.2 = true := fun p hp => by
      rcases List.mem_cons.mp (pm1.mem_iff.mp hp) with e | hp
      · rw [e]; exact ⟨hx, kx, sx⟩
      · exact R.mem p hp
    have few1 : L1.length < 64 := by rw [pm1.length_eq]; exact hfew
    have ld1 : w.params.followText "set-order" = true ∨ t1.led = true := R.led.imp id fun z => by rw [hl1]; exact z
    have done : ∀ h' L' es' ep' t', Heap.SameBut a s.heap h' → SetS P w h' a L' es' ep' t' → L'.Perm L1 → Q true { s with heap := h' } := fun h' L' es' ep' t' sb r pm' => hQ true h' L' es' ep' t' sb r (fun z => absurd z hnk) fun _ => pm'.trans pm1
    refine wpAny_bind (hgw _ ?_)
    split
    · refine wpAny_bind ?_
      rw [hashByValue_scannable 8 hsc]
      refine wpAny_pure (tailS ?_ ho hex hd e1 nd1 m1 few1 ?_ ?_ ?_ ?_)
      · intro b s₁ Q' q; cases b <;> first | exact wpAny_pure q | exact wpAny_rule q
      · first | (split <;> first | exact hf1 | exact SetTable.fits_plain_off hf1) | exact hf1
      · first | (split <;> exact hr1) | exact hr1
      · first | (split <;> exact ld1) | exact ld1
      · intro h' L' es' ep' t' sb r pm'; dsimp only; exact wpAny_pure (done h' L' es' ep' t' sb r pm')
    · refine wpAny_bind (wpAny_pure ?_)
      simp only [↓reduceIte]
      refine tailS ?_ ho hex hd e1 nd1 m1 few1 hf1 hr1 ld1 ?_
      · intro b s₁ Q' q; cases b <;> first | exact wpAny_pure q | exact wpAny_rule q
      · intro h' L' es' ep' t' sb r pm'; dsimp only; exact wpAny_pure (done h' L' es' ep' t' sb r pm')
end

/-! ### in general -/
abbrev freshSet (w : World) : Obj := { cls := .type "set", dict := none, data := .set #[] 0 (.fresh 0 0 (!w.params.followText "set-order")) }
structure SetTh (P : Program) (w : World) where
  T : Heap → Addr → List (Value × D) → Prop
  el : D → Prop
  fresh : ∀ {h : Heap} {a : Addr}, h.get? a = some (freshSet w) → T h a []
  add : ∀ {A : Around} {E : Value → Shared → Prop} {s : Shared} {a : Addr} {L : List (Value × D)} {x : Value} {d : D} {Q : Bool → Shared → Prop}, A.units + 64 < cLine → T s.heap a L → HR s.heap d x → okH 8 d = true → el d → L.length + 1 < 64 →
    (∀ b h' L', Heap.SameBut a s.heap h' → T h' a L' → (d ∈ L.map (·.2) → L' = L) → (d ∉ L.map (·.2) → L'.Perm ((x, d) :: L)) → Q b { s with heap := h' }) → wpAny (model P w) A (setAddHashed a x (hashD w d)) Q E s
  keep : ∀ {h h' : Heap} {a : Addr} {L : List (Value × D)}, T h a L → (∀ o, h.get? a = some o → h'.get? a = some o) → (∀ p ∈ L, HR h' p.2 p.1) → T h' a L
  nd : ∀ {h : Heap} {a : Addr} {L : List (Value × D)}, T h a L → (L.map (·.2)).Nodup ∧ (∀ p ∈ L, HR h p.2 p.1 ∧ okH 8 p.2 = true) ∧ L.length < 64
  exact : ∀ {h : Heap} {a : Addr} {L : List (Value × D)}, T h a L → ∃ o, h.get? a = some o ∧ o.ExactSet
  walk : ∀ {h : Heap} {a : Addr} {L : List (Value × D)}, T h a L → ∃ es ep t, SetAt h a es ep t ∧ t.fits es.size = true ∧ Ris t.place.toList ∧ (w.params.followText "set-order" = true ∨ t.led = true) ∧ es.toList = rowsX w L
def tupSets (P : Program) (w : World) : SetTh P w where
  T := fun h a L => ∃ es ep t, SetX P w h a L es ep t
  el := fun d => ∃ ds, d = .tup ds
  fresh := fun {h a} ho => ⟨#[], 0, _, ⟨_, ho, ⟨rfl, rfl, rfl⟩, rfl⟩, rfl, ⟨List.Pairwise.nil, rfl, rfl, .inl rfl, fun x hx => (by cases hx), fun i h j hi => (by simp at hi)⟩, List.nodup_nil, fun p hp => (by cases hp), by
    show _ ∨ (!w.params.followText "set-order") = true
    cases w.params.followText "set-order" <;> simp, by show 0 * 5 < 7 * 3; decide, by show 0 < 64; decide⟩
  add := fun hu ⟨es, ep, t, R⟩ hx kx ⟨ds, e⟩ hfew hQ => by
    subst e
    refine addX R hx kx ?_ hu hfew fun b h' L' es' ep' t' sb R' => hQ b h' L' sb ⟨es', ep', t', R'⟩
    cases hx; exact ⟨_, rfl⟩
  keep := fun ⟨es, ep, t, R⟩ k m => ⟨es, ep, t, let ⟨o, ho, r⟩ := R.ob; ⟨o, k _ ho, r⟩, R.rows, R.tab, R.nd, fun p hp => ⟨m p hp, (R.mem p hp).2⟩, R.led, R.room, R.few⟩
  nd := fun ⟨es, ep, t, R⟩ => ⟨R.nd, fun p hp => ⟨(R.mem p hp).1, (R.mem p hp).2.1⟩, R.few⟩
  exact := fun ⟨es, ep, t, R⟩ => let ⟨o, ho, hx, _⟩ := R.ob; ⟨o, ho, hx⟩
  walk := fun {h a L} ⟨es, ep, t, R⟩ => ⟨es, ep, t, let ⟨o, ho, hx, hd⟩ := R.ob; ⟨o, ho, hx.1, hd⟩, R.fit, R.tab.ris, R.led, R.rows⟩
def scSets (P : Program) (w : World) : SetTh P w where
  T := fun h a L => ∃ es ep t, SetS P w h a L es ep t
  el := fun d => isSc d = true
  fresh := fun {h a} ho => ⟨#[], 0, _, ⟨_, ho, ⟨rfl, rfl, rfl⟩, rfl⟩, rfl, List.nodup_nil, fun p hp => (by cases hp), by
    show _ ∨ (!w.params.followText "set-order") = true
    cases w.params.followText "set-order" <;> simp, List.Pairwise.nil, by rfl, by show 0 < 64; decide⟩
  add := fun hu ⟨es, ep, t, R⟩ hx kx e hfew hQ => addS R hx kx e hfew fun b h' L' es' ep' t' sb R' => hQ b h' L' sb ⟨es', ep', t', R'⟩
  keep := fun ⟨es, ep, t, R⟩ k m => ⟨es, ep, t, let ⟨o, ho, r⟩ := R.ob; ⟨o, k _ ho, r⟩, R.rows, R.nd, fun p hp => ⟨m p hp, (R.mem p hp).2⟩, R.led, R.ris, R.fit, R.few⟩
  nd := fun ⟨es, ep, t, R⟩ => ⟨R.nd, fun p hp => ⟨(R.mem p hp).1, (R.mem p hp).2.1⟩, R.few⟩
  exact := fun ⟨es, ep, t, R⟩ => let ⟨o, ho, hx, _⟩ := R.ob; ⟨o, ho, hx⟩
  walk := fun ⟨es, ep, t, R⟩ => ⟨es, ep, t, let ⟨o, ho, hx, hd⟩ := R.ob; ⟨o, ho, hx.1, hd⟩, R.fit, R.ris, R.led, R.rows⟩
end Pm

set_option maxHeartbeats 2000000
/-! Q14: the order of data -/
namespace Pm
open PySem PyProof.Rows L2

/-! ### three answers that fit -/
def T3 : Ordering → Ordering → Ordering → Prop
  | .lt, .lt, o => o = .lt
  | .lt, .eq, o => o = .lt
  | .eq, .lt, o => o = .lt
  | .eq, .eq, o => o = .eq
  | .gt, .gt, o => o = .gt
  | .gt, .eq, o => o = .gt
  | .eq, .gt, o => o = .gt
  | _, _, _ => True
theorem T3.then' {a b c a' b' c' : Ordering} (h : T3 a b c) (k : T3 a' b' c') : T3 (a.then a') (b.then b') (c.then c') := by
  cases a <;> cases b <;> simp only [T3] at h <;> try subst h
  all_goals cases a' <;> cases b' <;> simp only [T3] at k <;> try subst k
  all_goals simp [T3, Ordering.then]
def ordI3 (i j : Int) : Ordering := if i < j then .lt else if j < i then .gt else .eq
theorem ordI3_t (i j k : Int) : T3 (ordI3 i j) (ordI3 j k) (ordI3 i k) := by
  unfold ordI3
  by_cases h1 : i < j <;> by_cases h2 : j < i <;> by_cases h3 : j < k <;> by_cases h4 : k < j <;> by_cases h5 : i < k <;> by_cases h6 : k < i <;> first
    | (exfalso; omega)
    | simp [T3, h1, h2, h3, h4, h5, h6]
theorem ordI3_s (i j : Int) : ordI3 i j = (ordI3 j i).swap := by
  unfold ordI3
  by_cases h1 : i < j <;> by_cases h2 : j < i <;> first
    | (exfalso; omega)
    | simp [h1, h2, Ordering.swap]
theorem ordI3_e (i j : Int) : ordI3 i j = .eq ↔ i = j := by
  unfold ordI3
  by_cases h1 : i < j <;> by_cases h2 : j < i <;> simp [h1, h2] <;> omega
theorem ordI3_lt (i j : Int) : ordI3 i j = .lt ↔ i < j := by
  unfold ordI3
  by_cases h1 : i < j
  · rw [if_pos h1]; simp [h1]
  · rw [if_neg h1]
    by_cases h2 : j < i
    · rw [if_pos h2]; simp [h1]
    · rw [if_neg h2]; simp [h1]
/-- texts, sign by sign -/
def ordL : List Nat → List Nat → Ordering
  | [], [] => .eq
  | [], _ :: _ => .lt
  | _ :: _, [] => .gt
  | x :: xs, y :: ys => (ordI3 x y).then (ordL xs ys)
theorem ordL_t : ∀ a b c : List Nat, T3 (ordL a b) (ordL b c) (ordL a c)
  | [], [], [] => rfl
  | [], [], _ :: _ => rfl
  | [], _ :: _, [] => trivial
  | [], _ :: _, _ :: _ => by simp only [ordL]; cases ((ordI3 _ _).then (ordL _ _)) <;> simp [T3]
  | _ :: _, [], [] => rfl
  | _ :: _, [], _ :: _ => trivial
  | _ :: _, _ :: _, [] => by simp only [ordL]; cases ((ordI3 _ _).then (ordL _ _)) <;> simp [T3]
  | x :: xs, y :: ys, z :: zs => by simp only [ordL]; exact (ordI3_t x y z).then' (ordL_t xs ys zs)
theorem then_swap (a b : Ordering) : (a.then b).swap = a.swap.then b.swap := by cases a <;> rfl
theorem ordL_s : ∀ a b : List Nat, ordL a b = (ordL b a).swap
  | [], [] => rfl
  | [], _ :: _ => rfl
  | _ :: _, [] => rfl
  | x :: xs, y :: ys => by simp only [ordL]; rw [then_swap, ← ordI3_s, ← ordL_s xs ys]
theorem then_eq (a b : Ordering) : a.then b = .eq ↔ a = .eq ∧ b = .eq := by cases a <;> simp [Ordering.then]
theorem then_lt (a b : Ordering) : a.then b = .lt ↔ a = .lt ∨ (a = .eq ∧ b = .lt) := by cases a <;> simp [Ordering.then]
theorem ordL_e : ∀ a b : List Nat, ordL a b = .eq ↔ a = b
  | [], [] => by simp [ordL]
  | [], _ :: _ => by simp [ordL]
  | _ :: _, [] => by simp [ordL]
  | x :: xs, y :: ys => by
    simp only [ordL, then_eq, ordI3_e, ordL_e xs ys, List.cons.injEq]
    rw [show ((x : Int) = y ↔ x = y) from ⟨fun h => by omega, fun h => by omega⟩]
theorem ordL_lt : ∀ a b : List Nat, ordL a b = .lt ↔ a < b
  | [], [] => by simp [ordL]
  | [], _ :: _ => by simp [ordL]
  | _ :: _, [] => by simp [ordL]
  | x :: xs, y :: ys => by
    simp only [ordL, then_lt, ordI3_e, ordL_lt xs ys, List.cons_lt_cons_iff]
    rw [show (ordI3 (x : Int) y = .lt ↔ x < y) from by rw [ordI3_lt]; omega, show ((x : Int) = y ↔ x = y) from ⟨fun h => by omega, fun h => by omega⟩]
/-! ### data -/
def rkD : D → Nat
  | .int _ => 1
  | .str _ => 2
  | .tup _ => 3
  | _ => 0
mutual
def dC : D → D → Ordering
  | .int i, .int j => ordI3 i j
  | .str x, .str y => ordL x.cps.toList y.cps.toList
  | .tup xs, .tup ys => dCs xs ys
  | a, b => ordI3 (rkD a) (rkD b)
def dCs : List D → List D → Ordering
  | [], [] => .eq
  | [], _ :: _ => .lt
  | _ :: _, [] => .gt
  | x :: xs, y :: ys => (dC x y).then (dCs xs ys)
end
theorem dC_rk {a b : D} (h : rkD a ≠ rkD b) : dC a b = ordI3 (rkD a) (rkD b) := by
  cases a <;> cases b <;> simp [rkD] at h <;> simp only [dC]
theorem dC_0 {a b : D} (ha : rkD a = 0) (hb : rkD b = 0) : dC a b = .eq := by
  cases a <;> cases b <;> simp [rkD] at ha hb <;> simp [dC, rkD, ordI3]
theorem rk_t {a b c : D} (h : rkD a ≠ rkD b ∨ rkD b ≠ rkD c) : T3 (dC a b) (dC b c) (dC a c) := by
  have key : ∀ x y : D, (rkD x < rkD y → dC x y = .lt) ∧ (rkD y < rkD x → dC x y = .gt) := fun x y => by
    constructor
    · intro h; rw [dC_rk (by omega)]; unfold ordI3; rw [if_pos (by omega)]
    · intro h; rw [dC_rk (by omega)]; unfold ordI3; rw [if_neg (by omega), if_pos (by omega)]
  rcases Nat.lt_trichotomy (rkD a) (rkD b) with h1 | h1 | h1 <;> rcases Nat.lt_trichotomy (rkD b) (rkD c) with h2 | h2 | h2
  · rw [(key a b).1 h1, (key b c).1 h2, (key a c).1 (by omega)]; rfl
  · rw [(key a b).1 h1, (key a c).1 (by omega)]; cases dC b c <;> simp [T3]
  · rw [(key a b).1 h1, (key b c).2 h2]; trivial
  · rw [(key b c).1 h2, (key a c).1 (by omega)]; cases dC a b <;> simp [T3]
  · omega
  · rw [(key b c).2 h2, (key a c).2 (by omega)]; cases dC a b <;> simp [T3]
  · rw [(key a b).2 h1, (key b c).1 h2]; trivial
  · rw [(key a b).2 h1, (key a c).2 (by omega)]; cases dC b c <;> simp [T3]
  · rw [(key a b).2 h1, (key b c).2 h2, (key a c).2 (by omega)]; rfl
mutual
theorem dC_t : ∀ a b c : D, T3 (dC a b) (dC b c) (dC a c)
  | .int i, .int j, .int k => by simp only [dC]; exact ordI3_t i j k
  | .str x, .str y, .str z => by simp only [dC]; exact ordL_t _ _ _
  | .tup x, .tup y, .tup z => by simp only [dC]; exact dCs_t x y z
  | a, b, c => by
    by_cases h : rkD a ≠ rkD b ∨ rkD b ≠ rkD c
    · exact rk_t h
    · have h1 : rkD a = rkD b := by omega
      have h2 : rkD b = rkD c := by omega
      cases a <;> cases b <;> simp [rkD] at h1 <;> cases c <;> simp [rkD] at h2 <;> first
        | (simp only [dC]; exact ordI3_t _ _ _)
        | (simp only [dC]; exact ordL_t _ _ _)
        | (simp only [dC]; exact dCs_t _ _ _)
theorem dCs_t : ∀ a b c : List D, T3 (dCs a b) (dCs b c) (dCs a c)
  | [], [], [] => by simp [dCs, T3]
  | [], [], _ :: _ => by simp [dCs, T3]
  | [], _ :: _, [] => by simp [dCs, T3]
  | [], _ :: _, _ :: _ => by simp only [dCs]; cases ((dC _ _).then (dCs _ _)) <;> simp [T3]
  | _ :: _, [], [] => by simp [dCs, T3]
  | _ :: _, [], _ :: _ => by simp [dCs, T3]
  | _ :: _, _ :: _, [] => by simp only [dCs]; cases ((dC _ _).then (dCs _ _)) <;> simp [T3]
  | x :: xs, y :: ys, z :: zs => by simp only [dCs]; exact (dC_t x y z).then' (dCs_t xs ys zs)
end
mutual
theorem dC_s : ∀ a b : D, dC a b = (dC b a).swap
  | .int i, .int j => by simp only [dC]; exact ordI3_s i j
  | .str x, .str y => by simp only [dC]; exact ordL_s _ _
  | .tup x, .tup y => by simp only [dC]; exact dCs_s x y
  | a, b => by
    by_cases h : rkD a = rkD b
    · cases a <;> cases b <;> simp [rkD] at h <;> first
        | (simp only [dC]; exact ordI3_s _ _)
        | (simp only [dC]; exact ordL_s _ _)
        | (simp only [dC]; exact dCs_s _ _)
    · rw [dC_rk h, dC_rk (fun z => h z.symm)]; exact ordI3_s _ _
theorem dCs_s : ∀ a b : List D, dCs a b = (dCs b a).swap
  | [], [] => by simp [dCs]
  | [], _ :: _ => by simp [dCs]
  | _ :: _, [] => by simp [dCs]
  | x :: xs, y :: ys => by simp only [dCs]; rw [then_swap, ← dC_s x y, ← dCs_s xs ys]
end
theorem Str.cps_inj {x y : Str} (h : x.cps.toList = y.cps.toList) : x = y := by
  obtain ⟨a⟩ := x
  obtain ⟨b⟩ := y
  simp only at h
  rw [Array.toList_inj.mp h]
mutual
theorem dC_e : ∀ (n m : Nat) (a b : D), okH n a = true → okH m b = true → (dC a b = .eq ↔ a = b)
  | n, m, .int i, b, ha, hb => by
    cases b <;> simp [okH] at hb
    · simp only [dC, ordI3_e]; simp
    · simp [dC, rkD, ordI3]
    · simp [dC, rkD, ordI3]
  | n, m, .str x, b, ha, hb => by
    cases b <;> simp [okH] at hb
    · simp [dC, rkD, ordI3]
    · simp only [dC, ordL_e]
      exact ⟨fun h => by rw [Str.cps_inj h], fun h => by injection h with h; rw [h]⟩
    · simp [dC, rkD, ordI3]
  | n + 1, m, .tup xs, b, ha, hb => by
    cases b with
    | tup ys =>
      cases m with
      | zero => simp [okH] at hb
      | succ m =>
        simp only [okH] at ha hb
        simp only [dC]
        rw [dCs_e n m xs ys ha hb]
        exact ⟨fun h => by rw [h], fun h => by injection h⟩
    | int _ => simp [dC, rkD, ordI3]
    | str _ => simp [dC, rkD, ordI3]
    | _ => simp [okH] at hb
  | 0, m, .tup xs, b, ha, hb => by simp [okH] at ha
  | n, m, .non, b, ha, hb => by simp [okH] at ha
  | n, m, .bl _, b, ha, hb => by simp [okH] at ha
  | n, m, .lst _, b, ha, hb => by simp [okH] at ha
  | n, m, .obj _ _, b, ha, hb => by simp [okH] at ha
  | n, m, .ty _, b, ha, hb => by simp [okH] at ha
  | n, m, .cls _, b, ha, hb => by simp [okH] at ha
  | n, m, .scr _, b, ha, hb => by simp [okH] at ha
theorem dCs_e : ∀ (n m : Nat) (a b : List D), okHs n a = true → okHs m b = true → (dCs a b = .eq ↔ a = b)
  | n, m, [], [], ha, hb => by simp [dCs]
  | n, m, [], _ :: _, ha, hb => by simp [dCs]
  | n, m, _ :: _, [], ha, hb => by simp [dCs]
  | n, m, x :: xs, y :: ys, ha, hb => by
    simp only [okHs, Bool.and_eq_true] at ha hb
    simp only [dCs, then_eq, List.cons.injEq]
    rw [dC_e n m x y ha.1 hb.1, dCs_e n m xs ys ha.2 hb.2]
end
def ltD (a b : D) : Bool := dC a b == .lt
def leD (a b : D) : Bool := dC a b != .gt
theorem ltD_iff {a b : D} : ltD a b = true ↔ dC a b = .lt := by simp [ltD]
theorem leD_not {a b : D} : leD a b = !ltD b a := by
  unfold leD ltD
  rw [dC_s a b]
  cases dC b a <;> rfl
theorem swoD : SrtO.Swo ltD := by
  refine ⟨fun x y h => ?_, fun x y z h1 h2 => ?_⟩
  · have := ltD_iff.mp h
    unfold ltD
    rw [dC_s y x, this]; rfl
  · unfold ltD at h1 h2 ⊢
    have t := dC_t z y x
    cases e1 : dC z y <;> rw [e1] at h2 t <;> cases e2 : dC y x <;> rw [e2] at h1 t <;> simp [T3] at h1 h2 t <;> simp [t]
/-! ### sorted lists of data -/
def srtD (xs : List D) : List D := xs.mergeSort leD
theorem leD_tr (a b c : D) (h1 : leD a b = true) (h2 : leD b c = true) : leD a c = true := by
  rw [leD_not] at *
  simp only [Bool.not_eq_true'] at *
  exact swoD.tr a b c h1 h2
theorem leD_tot (a b : D) : (leD a b || leD b a) = true := by
  rw [leD_not, leD_not]
  cases h : ltD b a with
  | false => rfl
  | true => rw [swoD.asym b a h]; rfl
theorem srtD_perm (xs : List D) : (srtD xs).Perm xs := List.mergeSort_perm xs leD
theorem srtD_srt (xs : List D) : (srtD xs).Pairwise fun a b => leD a b = true := List.pairwise_mergeSort leD_tr leD_tot xs
theorem leD_anti {n m : Nat} {a b : D} (ha : okH n a = true) (hb : okH m b = true) (h1 : leD a b = true) (h2 : leD b a = true) : a = b := by
  rw [leD_not] at h1 h2
  simp only [Bool.not_eq_true'] at h1 h2
  refine (dC_e n m a b ha hb).mp ?_
  unfold ltD at h1 h2
  have s := dC_s a b
  cases e : dC a b with
  | eq => rfl
  | lt => rw [e] at h2; simp at h2
  | gt => rw [e] at s; cases e2 : dC b a <;> rw [e2] at s h1 <;> simp [Ordering.swap] at s h1
theorem srt_uniq {n : Nat} : ∀ {l m : List D}, (∀ x ∈ l, okH n x = true) → l.Perm m → (l.Pairwise fun a b => leD a b = true) → (m.Pairwise fun a b => leD a b = true) → l = m
  | [], m, _, p, _, _ => (List.Perm.eq_nil p.symm).symm
  | x :: l, [], _, p, _, _ => absurd p.length_eq (by simp)
  | x :: l, y :: m, hk, p, hl, hm => by
    obtain ⟨l1, l2⟩ := List.pairwise_cons.mp hl
    obtain ⟨m1, m2⟩ := List.pairwise_cons.mp hm
    have hx : okH n x = true := hk x List.mem_cons_self
    have hy : okH n y = true := hk y (p.mem_iff.mpr List.mem_cons_self)
    have refl : ∀ z : D, leD z z = true := fun z => by have := leD_tot z z; simpa using this
    have e : x = y := by
      have a1 : leD y x = true := by
        rcases List.mem_cons.mp (p.mem_iff.mp List.mem_cons_self) with e | h
        · rw [e]; exact refl y
        · exact m1 x h
      have a2 : leD x y = true := by
        rcases List.mem_cons.mp (p.mem_iff.mpr List.mem_cons_self) with e | h
        · rw [← e]; exact refl y
        · exact l1 y h
      exact leD_anti hx hy a2 a1
    subst e
    rw [srt_uniq (fun z hz => hk z (List.mem_cons_of_mem _ hz)) p.cons_inv l2 m2]
end Pm

set_option maxHeartbeats 2000000
/-! Q15: how data compare, how lists of data are sorted -/
namespace Pm
open PySem PySem.Spec PyProof.Rows L2 SrtO

mutual
/-- data that < compares -/
def cmpb : D → D → Bool
  | .int _, .int _ => true
  | .str _, .str _ => true
  | .tup xs, .tup ys => cmpbs xs ys
  | _, _ => false
def cmpbs : List D → List D → Bool
  | x :: xs, y :: ys => cmpb x y && cmpbs xs ys
  | _, _ => true
end
def cmpAll (ds : List D) : Bool := ds.all fun a => ds.all fun b => cmpb a b
theorem ltD_int (i j : Int) : ltD (.int i) (.int j) = decide (i < j) := by
  unfold ltD; simp only [dC]
  rw [Bool.eq_iff_iff]; simp [ordI3_lt]
theorem ltD_str (x y : Str) : ltD (.str x) (.str y) = decide (x.cps.toList < y.cps.toList) := by
  unfold ltD; simp only [dC]
  rw [Bool.eq_iff_iff]; simp [ordL_lt]
theorem ltD_tup (x y : List D) : ltD (.tup x) (.tup y) = (dCs x y == .lt) := by unfold ltD; simp only [dC]
theorem HRs.len {h : Heap} : ∀ {ds : List D} {vs : List Value}, HRs h ds vs → ds.length = vs.length
  | _, _, .nil => rfl
  | _, _, .cons _ t => by simp [HRs.len t]
theorem HRs.get {h : Heap} : ∀ {ds : List D} {vs : List Value} {i : Nat} {d : D} {v : Value}, HRs h ds vs → ds[i]? = some d → vs[i]? = some v → HR h d v
  | _, _, _, _, _, .nil, e, _ => by simp at e
  | _, _, 0, _, _, .cons r _, e, f => by simp at e f; subst e; subst f; exact r
  | _, _, i + 1, d, v, .cons _ t, e, f => HRs.get (i := i) t (by simpa using e) (by simpa using f)
def eAt (ds es : List D) (j : Nat) : Bool := match ds[j]?, es[j]? with
  | some x, some y => dEq x y
  | _, _ => false
def lAt (ds es : List D) (j : Nat) : Bool := match ds[j]?, es[j]? with
  | some x, some y => ltD x y
  | _, _ => false
theorem firstLt_dCs {n m : Nat} : ∀ (k i : Nat) (ds es : List D), okHs n ds = true → okHs m es = true → min ds.length es.length - i = k → i ≤ min ds.length es.length →
    SeqAt.firstLt (eAt ds es) (lAt ds es) (decide (ds.length < es.length)) ((List.range (min ds.length es.length)).drop i) = (dCs (ds.drop i) (es.drop i) == .lt)
  | 0, i, ds, es, hd, he, hk, hi => by
    rw [List.drop_of_length_le (by simp; omega)]
    simp only [SeqAt.firstLt]
    have hi' : i = min ds.length es.length := by omega
    rcases Nat.lt_trichotomy ds.length es.length with h | h | h
    · have e1 : ds.drop i = [] := List.drop_eq_nil_of_le (by omega)
      obtain ⟨y, ys, e2⟩ : ∃ y ys, es.drop i = y :: ys := ⟨_, _, List.drop_eq_getElem_cons (by omega)⟩
      rw [e1, e2]; simp [dCs, h]
    · have e1 : ds.drop i = [] := List.drop_eq_nil_of_le (by omega)
      have e2 : es.drop i = [] := List.drop_eq_nil_of_le (by omega)
      rw [e1, e2]; simp [dCs]; omega
    · have e2 : es.drop i = [] := List.drop_eq_nil_of_le (by omega)
      obtain ⟨y, ys, e1⟩ : ∃ y ys, ds.drop i = y :: ys := ⟨_, _, List.drop_eq_getElem_cons (by omega)⟩
      rw [e1, e2]; simp [dCs]; omega
  | k + 1, i, ds, es, hd, he, hk, hi => by
    have h1 : i < ds.length := by omega
    have h2 : i < es.length := by omega
    have hr : (List.range (min ds.length es.length)).drop i = i :: (List.range (min ds.length es.length)).drop (i + 1) := by
      rw [List.drop_eq_getElem_cons (by simp; omega)]; simp
    have ih := firstLt_dCs k (i + 1) ds es hd he (by omega) (by omega)
    rw [hr, List.drop_eq_getElem_cons h1, List.drop_eq_getElem_cons h2]
    rw [okHs_all, List.all_eq_true] at hd he
    have kx := hd ds[i] (List.getElem_mem h1)
    have ky := he es[i] (List.getElem_mem h2)
    have ee : eAt ds es i = dEq ds[i] es[i] := by unfold eAt; rw [List.getElem?_eq_getElem h1, List.getElem?_eq_getElem h2]
    have ll : lAt ds es i = ltD ds[i] es[i] := by unfold lAt; rw [List.getElem?_eq_getElem h1, List.getElem?_eq_getElem h2]
    simp only [SeqAt.firstLt, ee, ll, dCs]
    by_cases q : dEq ds[i] es[i] = true
    · rw [if_pos q, ih, (dC_e n m _ _ kx ky).mpr ((dEq_iff n m _ _ kx ky).mp q)]; rfl
    · rw [if_neg q]
      have ne : dC ds[i] es[i] ≠ .eq := fun z => q ((dEq_iff n m _ _ kx ky).mpr ((dC_e n m _ _ kx ky).mp z))
      unfold ltD
      cases z : dC ds[i] es[i] with
      | eq => exact absurd z ne
      | lt => rfl
      | gt => rfl
theorem cmpbs_at : ∀ {ds es : List D} {j : Nat} {x y : D}, cmpbs ds es = true → ds[j]? = some x → es[j]? = some y → cmpb x y = true
  | [], _, _, _, _, _, e, _ => by simp at e
  | _ :: _, [], _, _, _, _, _, e => by simp at e
  | a :: ds, b :: es, 0, x, y, h, ex, ey => by
    simp at ex ey; subst ex; subst ey
    simp only [cmpbs, Bool.and_eq_true] at h
    exact h.1
  | a :: ds, b :: es, j + 1, x, y, h, ex, ey => by
    simp only [cmpbs, Bool.and_eq_true] at h
    exact cmpbs_at (j := j) h.2 (by simpa using ex) (by simpa using ey)
section
variable {s : Shared}
theorem eqAt_HR {A : Around} {n m : Nat} {a b : D} {u v : Value} (ha : okH n a = true) (hb : okH m b = true) (ra : HR s.heap a u) (rb : HR s.heap b v) (hn : n ≤ 64) (hu : A.units + 64 < cLine) : SeqAt.EqAt A s u v (dEq a b) :=
  fun prog w E Q h => eqBool_HR ha hb ra rb hn hu h
/-- the items of two tuples, as the rule for < wants them -/
theorem items_lt {A : Around} {n m : Nat} {ds es : List D} {xs ys : Array Value} (kd : okHs n ds = true) (ke : okHs m es = true) (hn : n ≤ 64) (c : cmpbs ds es = true) (r1 : HRs s.heap ds xs.toList) (r2 : HRs s.heap es ys.toList) (hu : A.units + 65 < cLine)
    (ih : ∀ (d e : D) (u v : Value), okH n d = true → okH m e = true → cmpb d e = true → HR s.heap d u → HR s.heap e v → SeqAt.RcLt A.in1 s u v (ltD d e)) :
    (∀ j (h1 : j < xs.size) (h2 : j < ys.size), SeqAt.EqAt A.in1 s xs[j] ys[j] (eAt ds es j)) ∧ (∀ j (h1 : j < xs.size) (h2 : j < ys.size), eAt ds es j = false → SeqAt.RcLt A.in1 s xs[j] ys[j] (lAt ds es j)) ∧
    SeqAt.firstLt (eAt ds es) (lAt ds es) (decide (xs.size < ys.size)) (List.range (min xs.size ys.size)) = ltD (.tup ds) (.tup es) := by
  have l1 : ds.length = xs.size := by rw [r1.len, Array.length_toList]
  have l2 : es.length = ys.size := by rw [r2.len, Array.length_toList]
  have at_ : ∀ j (h1 : j < xs.size) (h2 : j < ys.size), ∃ d e, ds[j]? = some d ∧ es[j]? = some e ∧ okH n d = true ∧ okH m e = true ∧ HR s.heap d xs[j] ∧ HR s.heap e ys[j] := fun j h1 h2 => by
    have j1 : j < ds.length := by omega
    have j2 : j < es.length := by omega
    rw [okHs_all, List.all_eq_true] at kd ke
    refine ⟨_, _, List.getElem?_eq_getElem j1, List.getElem?_eq_getElem j2, kd _ (List.getElem_mem j1), ke _ (List.getElem_mem j2), r1.get (List.getElem?_eq_getElem j1) ?_, r2.get (List.getElem?_eq_getElem j2) ?_⟩
    · rw [Array.getElem?_toList]; exact Array.getElem?_eq_getElem h1
    · rw [Array.getElem?_toList]; exact Array.getElem?_eq_getElem h2
  refine ⟨fun j h1 h2 => ?_, fun j h1 h2 _ => ?_, ?_⟩
  · obtain ⟨d, e, e1, e2, k1, k2, q1, q2⟩ := at_ j h1 h2
    have : eAt ds es j = dEq d e := by unfold eAt; rw [e1, e2]
    rw [this]
    exact eqAt_HR k1 k2 q1 q2 hn (by show A.units + 1 + 64 < cLine; omega)
  · obtain ⟨d, e, e1, e2, k1, k2, q1, q2⟩ := at_ j h1 h2
    have : lAt ds es j = ltD d e := by unfold lAt; rw [e1, e2]
    rw [this]
    exact ih d e _ _ k1 k2 (cmpbs_at c e1 e2) q1 q2
  · have := firstLt_dCs _ 0 ds es kd ke rfl (Nat.zero_le _)
    rw [List.drop_zero, List.drop_zero, List.drop_zero, l1, l2] at this
    rw [this, ltD_tup]
theorem rcLt_HR : ∀ (n : Nat) {A : Around} {m : Nat} {d e : D} {u v : Value}, okH n d = true → okH m e = true → n ≤ 64 → cmpb d e = true → HR s.heap d u → HR s.heap e v → A.units + n + 66 < cLine → SeqAt.RcLt A s u v (ltD d e) := by
  intro n
  induction n with
  | zero =>
    intro A m d e u v kd ke hn c r1 r2 hu
    cases r1 with
    | int i t => cases r2 with
      | int j t' => rw [ltD_int]; exact fun _ _ _ _ h => PyProof.Rows.lt_int h
      | _ => simp [cmpb] at c
    | str i t => cases r2 with
      | str j t' => rw [ltD_str]; exact fun _ _ _ _ h => P.lt_str h
      | _ => simp [cmpb] at c
    | tup _ _ _ _ => simp [okH] at kd
  | succ n ih =>
    intro A m d e u v kd ke hn c r1 r2 hu
    cases r1 with
    | int i t => cases r2 with
      | int j t' => rw [ltD_int]; exact fun _ _ _ _ h => PyProof.Rows.lt_int h
      | _ => simp [cmpb] at c
    | str i t => cases r2 with
      | str j t' => rw [ltD_str]; exact fun _ _ _ _ h => P.lt_str h
      | _ => simp [cmpb] at c
    | tup g1 g2 g3 q1 => cases r2 with
      | tup f1 f2 f3 q2 =>
        cases m with
        | zero => simp [okH] at ke
        | succ m =>
          simp only [okH] at kd ke
          simp only [cmpb] at c
          obtain ⟨z1, z2, z3⟩ := items_lt (A := A) kd ke (by omega) c q1 q2 (by omega) fun d e u v k1 k2 c' p1 p2 => ih k1 k2 (by omega) c' p1 p2 (by show A.units + 1 + n + 66 < cLine; omega)
          rw [← z3]
          exact SeqAt.RcLt.tuples ⟨_, g1, g2, _, g3⟩ ⟨_, f1, f2, _, f3⟩ (by omega) z1 z2
      | _ => simp [cmpb] at c
/-- the sort's own question -/
theorem oneLt_HR {P : Program} {w : World} {A : Around} {E : Value → Shared → Prop} {n m : Nat} {d e : D} {u v : Value} {Q : Bool → Shared → Prop} (f : Bool) (kd : okH n d = true) (ke : okH m e = true) (hn : n ≤ 63) (c : cmpb d e = true) (r1 : HR s.heap d u) (r2 : HR s.heap e v)
    (hu : A.units + n + 68 < cLine) (h : Q (ltD d e) s) : wpAny (model P w) A (oneLt' f u v) Q E s := by
  cases f with
  | false =>
    rw [oneLt'_eq]
    simp only [Bool.false_eq_true, if_false]
    exact wpAny_bind (rcLt_HR n kd ke (by omega) c r1 r2 (by omega) P w E _ (wpAny_truthy_bool h))
  | true =>
    cases r1 with
    | int i t => cases r2 with
      | int j t' => rw [ltD_int] at h; exact oneLt_int h
      | _ => simp [cmpb] at c
    | str i t => cases r2 with
      | str j t' => rw [ltD_str] at h; exact oneLt_str h
      | _ => simp [cmpb] at c
    | @tup a o1 xs n1 ds g1 g2 g3 q1 => cases r2 with
      | @tup b o2 ys n2 es f1 f2 f3 q2 =>
        cases m with
        | zero => simp [okH] at ke
        | succ m =>
          cases n with
          | zero => simp [okH] at kd
          | succ n =>
            simp only [okH] at kd ke
            simp only [cmpb] at c
            obtain ⟨z1, z2, z3⟩ := items_lt (A := A) kd ke (by omega) c q1 q2 (by omega) fun d e u v k1 k2 c' p1 p2 => rcLt_HR n k1 k2 (by omega) c' p1 p2 (by show A.units + 1 + n + 66 < cLine; omega)
            have hT : s.TypeIs (.ref a) "tuple" := ⟨_, g1, g2⟩
            obtain ⟨c1, dd1, da1, sl1⟩ := o1
            obtain ⟨c2, dd2, da2, sl2⟩ := o2
            simp only at g2 g3 f2 f3
            subst g2; subst g3; subst f2; subst f3
            rw [oneLt'_eq]
            simp only [if_true]
            refine wpAny_bind (wpAny_cRoomFor_or (.inr (by omega)) ?_)
            refine wpAny_bind (wpAny_callSpecialIfBound?_slot hT PySem.F.slot_tuple_lt ?_)
            refine call_meets PySem.F.slot_tuple_lt hT PySem.F.entry_tuple_lt (PySem.F.args_tuple_lt_2 _ _) (SeqAt.tuple_ltAt a b xs ys _ _ _ _ _ _ _ _) ⟨g1, f1, z1, z2, ?_⟩
            rw [z3]
            exact wpAny_truthy_bool h
      | _ => simp [cmpb] at c
end
theorem firstLt_ext {e r r' : Nat → Bool} {fin : Bool} : ∀ l : List Nat, (∀ j ∈ l, e j = false → r j = r' j) → SeqAt.firstLt e r fin l = SeqAt.firstLt e r' fin l
  | [], _ => rfl
  | j :: t, h => by
    simp only [SeqAt.firstLt]
    by_cases q : e j = true
    · rw [if_pos q, if_pos q]; exact firstLt_ext t fun i hi => h i (List.mem_cons_of_mem _ hi)
    · rw [if_neg q, if_neg q]; exact h j List.mem_cons_self (by simpa using q)
/-! ### which question the sort asks -/
section
variable {P : Program} {w : World} {A : Around} {E : Value → Shared → Prop} {s : Shared}
theorem mapM_each {M : Model} {α β : Type} {f : α → Sem β} {r : α → β} : ∀ (l : List α) {Q : List β → Shared → Prop}, (∀ v ∈ l, ∀ (Q' : β → Shared → Prop), Q' (r v) s → wpAny M A (f v) Q' E s) → Q (l.map r) s → wpAny M A (l.mapM f) Q E s
  | [], _, _, h => by rw [List.mapM_nil]; exact wpAny_pure h
  | x :: l, Q, hf, h => by
    rw [List.mapM_cons]
    exact wpAny_bind (hf x (.head _) _ (wpAny_bind (mapM_each l (Q := fun bs s' => wpAny M A (pure (r x :: bs)) Q E s') (fun v hv => hf v (.tail _ hv)) (wpAny_pure h))))
/-- a value's type, its first item: as the heap has them -/
def tyOf (h : Heap) : Value → Value
  | .int _ _ => .type "int"
  | .str _ _ => .type "str"
  | .ref a => match h.get? a with
    | some o => o.cls
    | none => .none
  | _ => .none
def fstOf (h : Heap) : Value → Option Value
  | .ref a => match h.get? a with
    | some o => match o.data with
      | .seq xs _ => xs[0]?
      | _ => none
    | none => none
  | _ => none
theorem ty_HR {M : Model} {d : D} {v : Value} {Q : Value → Shared → Prop} (r : HR s.heap d v) (h : Q (tyOf s.heap v) s) : wpAny M A (typeOf v) Q E s := by
  cases r with
  | int i t => exact wpAny_pure h
  | str i t => exact wpAny_pure h
  | tup e1 e2 e3 q =>
    refine PySem.W.Looks.here ((PySem.W.Looks.ld e1).andThen .now) ?_
    simpa only [tyOf, e1] using h
theorem fst_HR {M : Model} {d : D} {v : Value} {Q : Option Value → Shared → Prop} (r : HR s.heap d v) (h : Q (fstOf s.heap v) s) : wpAny M A (firstOfTuple' v) Q E s := by
  rw [PySem.W.kas_first_eq]
  refine wpAny_bind (ty_HR r ?_)
  cases r with
  | int i t => rw [if_pos (by simp only [tyOf]; decide)]; exact wpAny_pure h
  | str i t => rw [if_pos (by simp only [tyOf]; decide)]; exact wpAny_pure h
  | tup e1 e2 e3 q =>
    rw [if_neg (by simp only [tyOf, e1, e2]; decide)]
    refine wpAny_bind (listItems_at e1 e3 (wpAny_pure ?_))
    simpa only [fstOf, e1, e3] using h
def oneTy (h : Heap) (l : List Value) : Option Value := match (l.map (tyOf h)).toArray[0]? with
  | some t => if (l.map (tyOf h)).toArray.all (· == t) then some t else none
  | none => none
def kindV (h : Heap) (vs : List Value) : SortKind :=
  if ((vs.map (fstOf h)).toArray.all (·.isSome)) = true then tuples' ((oneTy h ((vs.map (fstOf h)).toArray.filterMap id).toList).any (· != .type "tuple"))
  else if (((vs.map (fstOf h)).toArray[0]?.bind id).isSome) = true then general' else if (oneTy h vs).isSome then oneType' else general'
theorem one_HR {M : Model} {vs : List Value} {Q : Option Value → Shared → Prop} (r : ∀ v ∈ vs, ∃ d, HR s.heap d v) (h : Q (oneTy s.heap vs) s) : wpAny M A (oneTypeOnly' vs.toArray) Q E s := by
  rw [oneTypeOnly'_eq, List.mapM_toArray, map_eq_pure_bind]
  refine wpAny_bind (wpAny_bind (mapM_each vs (r := tyOf s.heap) (fun v hv Q' hq => let ⟨d, q⟩ := r v hv; ty_HR q hq) (wpAny_pure ?_)))
  unfold oneTy at h
  cases e : (vs.map (tyOf s.heap)).toArray[0]? with
  | none => rw [e] at h; exact wpAny_pure h
  | some t =>
    rw [e] at h
    dsimp only at h ⊢
    exact wpAny_pure h
theorem kind_HR {M : Model} {ds : List D} {vs : List Value} {Q : SortKind → Shared → Prop} (r : HRs s.heap ds vs) (h : Q (kindV s.heap vs) s) : wpAny M A (keyKind' vs.toArray) Q E s := by
  have all := r.all
  have fsts : ∀ f ∈ ((vs.map (fstOf s.heap)).toArray.filterMap id).toList, ∃ d, HR s.heap d f := fun f hf => by
    have hf' : f ∈ (vs.map (fstOf s.heap)).filterMap id := by simpa using hf
    rw [List.mem_filterMap] at hf'
    obtain ⟨o, ho, eo⟩ := hf'
    obtain ⟨v, hv, e⟩ := List.mem_map.mp ho
    obtain ⟨d, _, q⟩ := all v hv
    simp only [id] at eo
    subst eo
    cases q with
    | int _ _ => simp [fstOf] at e
    | str _ _ => simp [fstOf] at e
    | tup e1 e2 e3 q =>
      simp only [fstOf, e1, e3] at e
      obtain ⟨d0, _, q0⟩ := q.all f (by rw [← Array.getElem?_toList] at e; exact List.mem_of_getElem? e)
      exact ⟨d0, q0⟩
  rw [keyKind'_eq, List.mapM_toArray, map_eq_pure_bind]
  refine wpAny_bind (wpAny_bind (mapM_each vs (r := fstOf s.heap) (fun v hv Q' hq => let ⟨d, _, q⟩ := all v hv; fst_HR q hq) (wpAny_pure ?_)))
  unfold kindV at h
  by_cases c1 : ((vs.map (fstOf s.heap)).toArray.all (·.isSome)) = true
  · rw [if_pos c1] at h ⊢
    refine wpAny_bind (wpAny_rule ?_)
    have e : ((vs.map (fstOf s.heap)).toArray.filterMap id) = ((vs.map (fstOf s.heap)).toArray.filterMap id).toList.toArray := by simp
    rw [e]
    exact wpAny_bind (one_HR fsts (wpAny_pure h))
  · rw [if_neg c1] at h ⊢
    by_cases c2 : (((vs.map (fstOf s.heap)).toArray[0]?.bind id).isSome) = true
    · rw [if_pos c2] at h ⊢; exact wpAny_pure h
    · rw [if_neg c2] at h ⊢
      exact wpAny_bind (one_HR (fun v hv => let ⟨d, _, q⟩ := all v hv; ⟨d, q⟩) (wpAny_pure h))
/-- tuples compare item by item -/
theorem kat_HR {n m : Nat} {b : Bool} {Q : Bool → Shared → Prop} (hn : n ≤ 63) (hu : A.units + n + 68 < cLine) : ∀ (ds es : List D) (us vs : List Value) (i : Nat) (fin : Bool), okHs n ds = true → okHs m es = true → cmpbs ds es = true → HRs s.heap ds us → HRs s.heap es vs →
    fin = decide (us.length < vs.length) → Q (dCs ds es == .lt) s → PySem.W.KatLex P w A b fin Q (us.zip vs) i s
  | [], [], _, _, i, fin, _, _, _, .nil, .nil, hf, h => by subst hf; exact PySem.W.kat_nil (by simpa [dCs] using h)
  | [], _ :: _, _, _, i, fin, _, _, _, .nil, .cons _ _, hf, h => by subst hf; exact PySem.W.kat_nil (by simpa [dCs] using h)
  | _ :: _, [], _, _, i, fin, _, _, _, .cons _ _, .nil, hf, h => by subst hf; exact PySem.W.kat_nil (by simpa [dCs] using h)
  | x :: ds, y :: es, u :: us, v :: vs, i, fin, kd, ke, c, .cons r1 t1, .cons r2 t2, hf, h => by
    simp only [okHs, Bool.and_eq_true] at kd ke
    simp only [cmpbs, Bool.and_eq_true] at c
    refine PySem.W.kat_cons (eqBool_HR kd.1 ke.1 r1 r2 (by omega) (by omega) (PySem.W.kat_go (fun e => PySem.W.kat_yes ?_) fun e => PySem.W.kat_no ?_))
    · refine kat_HR hn hu ds es us vs (i + 1) fin kd.2 ke.2 c.2 t1 t2 (by rw [hf]; simp) ?_
      simp only [dCs] at h
      rw [(dC_e n m _ _ kd.1 ke.1).mpr ((dEq_iff n m _ _ kd.1 ke.1).mp e)] at h
      exact h
    · refine oneLt_HR _ kd.1 ke.1 hn c.1 r1 r2 hu ?_
      simp only [dCs] at h
      unfold ltD
      cases z : dC x y with
      | eq =>
        rw [(dEq_iff n m _ _ kd.1 ke.1).mpr ((dC_e n m _ _ kd.1 ke.1).mp z)] at e
        cases e
      | lt => rw [z] at h; exact h
      | gt => rw [z] at h; exact h
theorem keyLt_HR {n m : Nat} {d e : D} {vs : List Value} {ds : List D} {u v : Value} {Q : Bool → Shared → Prop} (kd : okH n d = true) (ke : okH m e = true) (hn : n ≤ 63) (c : cmpb d e = true) (r1 : HR s.heap d u) (r2 : HR s.heap e v) (hu : A.units + n + 68 < cLine)
    (h0 : HRs s.heap ds vs) (m1 : u ∈ vs) (m2 : v ∈ vs) (h : Q (ltD d e) s) : wpAny (model P w) A (keyLt' (kindV s.heap vs) u v) Q (fun _ _ => False) s := by
  unfold kindV
  by_cases c1 : ((vs.map (fstOf s.heap)).toArray.all (·.isSome)) = true
  · rw [if_pos c1]
    have some1 : ∀ z ∈ vs, (fstOf s.heap z).isSome = true := fun z hz => by
      simp only [List.all_toArray, List.all_map, List.all_eq_true] at c1
      exact c1 z hz
    cases r1 with
    | int _ _ => have := some1 _ m1; simp [fstOf] at this
    | str _ _ => have := some1 _ m1; simp [fstOf] at this
    | tup g1 g2 g3 q1 => cases r2 with
      | int _ _ => have := some1 _ m2; simp [fstOf] at this
      | str _ _ => have := some1 _ m2; simp [fstOf] at this
      | tup f1 f2 f3 q2 =>
        cases m with
        | zero => simp [okH] at ke
        | succ m =>
          cases n with
          | zero => simp [okH] at kd
          | succ n =>
            simp only [okH] at kd ke
            simp only [cmpb] at c
            rw [ltD_tup] at h
            refine PySem.W.kat_lt g1 g3 f1 f3 (kat_HR (n := n) (m := m) (by omega) (by omega) _ _ _ _ 0 _ kd ke c q1 q2 (by simp) h)
  · rw [if_neg c1]
    split
    · exact oneLt_HR false kd ke hn c r1 r2 hu h
    · split
      · exact oneLt_HR true kd ke hn c r1 r2 hu h
      · exact oneLt_HR false kd ke hn c r1 r2 hu h
end
end Pm

set_option maxHeartbeats 2000000
/-! Q16: sorted lists, sets from lists -/
namespace Pm
open PySem PySem.Spec PyProof.Rows L2 SrtO

mutual
theorem HR.keepT {h h' : Heap} (k : ∀ b o, h.get? b = some o → o.cls = .type "tuple" → h'.get? b = some o) : ∀ {d : D} {v : Value}, HR h d v → HR h' d v
  | _, _, .int i t => .int i t
  | _, _, .str x t => .str x t
  | _, _, .tup e1 e2 e3 r => .tup (k _ _ e1 e2) e2 e3 (HRs.keepT k r)
theorem HRs.keepT {h h' : Heap} (k : ∀ b o, h.get? b = some o → o.cls = .type "tuple" → h'.get? b = some o) : ∀ {d : List D} {v : List Value}, HRs h d v → HRs h' d v
  | _, _, .nil => .nil
  | _, _, .cons r t => .cons (HR.keepT k r) (HRs.keepT k t)
end
open Classical in
/-- the data that a value is -/
noncomputable def dOf (h : Heap) (v : Value) : D := if e : ∃ d, HR h d v then e.choose else .non
theorem dOf_eq {h : Heap} {d : D} {v : Value} (r : HR h d v) : dOf h v = d := by
  unfold dOf
  have e : ∃ d, HR h d v := ⟨d, r⟩
  rw [dif_pos e]
  exact e.choose_spec.inj r
noncomputable def ltV (h : Heap) (u v : Value) : Bool := ltD (dOf h u) (dOf h v)
theorem swoV (h : Heap) : Swo (ltV h) := ⟨fun x y => swoD.asym _ _, fun x y z => swoD.tr _ _ _⟩
theorem perm_map {α β : Type} (f : α → β) {l1 : List β} : ∀ {l0 : List β} (_ : l1.Perm l0) (L : List α), l0 = L.map f → ∃ L1 : List α, l1 = L1.map f ∧ L1.Perm L := by
  intro l0 pm
  induction pm with
  | nil => intro L e; cases L with
    | nil => exact ⟨[], rfl, .refl _⟩
    | cons p r => simp at e
  | cons x _ ih =>
    intro L e
    cases L with
    | nil => simp at e
    | cons p r =>
      simp only [List.map_cons, List.cons.injEq] at e
      obtain ⟨L1, h1, h2⟩ := ih r e.2
      exact ⟨p :: L1, by rw [h1, e.1]; simp, h2.cons p⟩
  | swap x y l =>
    intro L e
    match L, e with
    | p :: q :: r, e =>
      simp only [List.map_cons, List.cons.injEq] at e
      exact ⟨q :: p :: r, by simp [e.1, e.2.1, e.2.2], .swap _ _ _⟩
    | [_], e => simp at e
    | [], e => simp at e
  | trans _ _ ih1 ih2 =>
    intro L e
    obtain ⟨L1, h1, h2⟩ := ih2 L e
    obtain ⟨L2, h3, h4⟩ := ih1 L1 h1
    exact ⟨L2, h3, h4.trans h2⟩
section
variable {P : Program} {w : World} {A : Around} {E : Value → Shared → Prop} {s : Shared}
theorem HRs.mem_at {h : Heap} : ∀ {ds : List D} {vs : List Value} {v : Value}, HRs h ds vs → v ∈ vs → ∃ d ∈ ds, HR h d v
  | _, _, _, r, hv => r.all _ hv
theorem sortable {a : Addr} {vs : List Value} {ds : List D} {h0 : Heap} {A : Around} (r : HRs h0 ds vs) (kd : okHs 60 ds = true) (c : cmpAll ds = true) (hu : A.units + 130 < cLine)
    (k : ∀ h' : Heap, (∀ b o, b ≠ a → s.heap.get? b = some o → h'.get? b = some o) → ∀ b o, h0.get? b = some o → o.cls = .type "tuple" → h'.get? b = some o) : SortableO P w A s a vs (ltV h0) := fun h' keep => by
  have r' : HRs h' ds vs := r.keepT (k h' keep)
  refine ⟨kindV h' vs, fun Q E q => kind_HR (s := { s with heap := h' }) r' q, fun p q hp hq => ?_⟩
  rw [okHs_all, List.all_eq_true] at kd
  obtain ⟨d, hd, rd⟩ := r.mem_at hp
  obtain ⟨e, he, re⟩ := r.mem_at hq
  have hc : cmpb d e = true := by
    unfold cmpAll at c
    rw [List.all_eq_true] at c
    have := c d hd
    rw [List.all_eq_true] at this
    exact this e he
  refine keyLt_HR (s := { s with heap := h' }) (kd d hd) (kd e he) (by decide) hc (rd.keepT (k h' keep)) (re.keepT (k h' keep)) (by omega) r' hp hq ⟨rfl, ?_⟩
  show ltD d e = ltV h0 p.1 q.1
  unfold ltV
  rw [dOf_eq rd, dOf_eq re]
/-- what a sort has left, as data -/
theorem sorted_data {h : Heap} {L : List (D × V × Value)} {out : List Value} (rs : ∀ p ∈ L, HR h p.1 p.2.2) (kd : okHs 60 (L.map (·.1)) = true) (hs : Srtd (ltV h) out) (hp : out.Perm (L.map fun p => p.2.2)) :
    ∃ L1 : List (D × V × Value), out = L1.map (fun p => p.2.2) ∧ L1.Perm L ∧ L1.map (·.1) = srtD (L.map (·.1)) := by
  obtain ⟨L1, e, pm⟩ := perm_map (fun p : D × V × Value => p.2.2) hp L rfl
  refine ⟨L1, e, pm, ?_⟩
  rw [okHs_all, List.all_eq_true] at kd
  have kd1 : ∀ x ∈ L1.map (·.1), okH 60 x = true := fun x hx => kd x ((pm.map (·.1)).mem_iff.mp hx)
  refine srt_uniq kd1 ((pm.map (·.1)).trans (srtD_perm _).symm) ?_ (srtD_srt _)
  rw [e] at hs
  have hs := List.pairwise_map.mp hs
  refine List.pairwise_map.mpr ?_
  refine List.Pairwise.imp_of_mem (fun {p q} hp hq h => ?_) hs
  rw [leD_not]
  have h' : ltV _ q.2.2 p.2.2 = false := h
  unfold ltV at h'
  rw [dOf_eq (rs q (pm.mem_iff.mp hq)), dOf_eq (rs p (pm.mem_iff.mp hp))] at h'
  rw [h']; rfl
end
/-! ### sorted(l) -/
section
variable {X : Cx} {G : Cl}
mutual
theorem Rep.hr {pins : List (Addr × Obj)} {σ : L2.St} {F H : Hp} {s : Shared} (I : Inv X pins σ H s) (fh : Sub F H) : ∀ {n : Nat} {d : D} {v : V} {u : Value}, Rep X.K G.at_ F d v → RelV v u → okH n d = true → HR s.heap d u
  | _, _, _, _, .int i, r, _ => by obtain ⟨t, rfl⟩ := r; exact .int i t
  | _, _, _, _, .str i, r, _ => by obtain ⟨t, rfl⟩ := r; exact .str i t
  | n, _, _, _, .tup q rs, r, h => by
    obtain rfl := r
    cases n with
    | zero => simp [okH] at h
    | succ n =>
      obtain ⟨its, rv, ⟨o, ho, hc, m, hd⟩, _⟩ := I.tuple (sub_t fh q)
      exact .tup ho hc hd (Reps.hr I fh rs rv (by simpa [okH] using h))
  | n, _, _, _, .non, _, h => by simp [okH] at h
  | n, _, _, _, .bl _, _, h => by simp [okH] at h
  | n, _, _, _, .ty _, _, h => by simp [okH] at h
  | n, _, _, _, .cls _, _, h => by simp [okH] at h
  | n, _, _, _, .lst _ _, _, h => by simp [okH] at h
  | n, _, _, _, .scr _ _, _, h => by simp [okH] at h
  | n, _, _, _, .obj _ _ _, _, h => by simp [okH] at h
theorem Reps.hr {pins : List (Addr × Obj)} {σ : L2.St} {F H : Hp} {s : Shared} (I : Inv X pins σ H s) (fh : Sub F H) : ∀ {n : Nat} {ds : List D} {vs : List V} {us : List Value}, Reps X.K G.at_ F ds vs → Vals vs us → okHs n ds = true → HRs s.heap ds us
  | _, _, _, _, .nil, .nil, _ => .nil
  | _, _, _, _, .cons r t, .cons r' t', h => by
    simp only [okHs, Bool.and_eq_true] at h
    exact .cons (Rep.hr I fh r r' h.1) (Reps.hr I fh t t' h.2)
end
/-- data, values, all in one list -/
theorem trip {F : Hp} {h : Heap} {n : Nat} : ∀ {ds : List D} {vs : List V} {us : List Value}, Reps X.K G.at_ F ds vs → Vals vs us → HRs h ds us → ∃ L : List (D × V × Value), ds = L.map (·.1) ∧ vs = L.map (fun p => p.2.1) ∧ us = L.map (fun p => p.2.2) ∧ ∀ p ∈ L, Rep X.K G.at_ F p.1 p.2.1 ∧ RelV p.2.1 p.2.2 ∧ HR h p.1 p.2.2
  | _, _, _, .nil, .nil, .nil => ⟨[], rfl, rfl, rfl, fun p hp => by cases hp⟩
  | _, _, _, .cons r t, .cons r' t', .cons q q' => by
    obtain ⟨L, e1, e2, e3, al⟩ := trip (n := n) t t' q'
    refine ⟨(_, _, _) :: L, by rw [e1]; rfl, by rw [e2]; rfl, by rw [e3]; rfl, fun p hp => ?_⟩
    rcases List.mem_cons.mp hp with rfl | hp
    · exact ⟨r, r', q⟩
    · exact al p hp
theorem trip_back {F : Hp} : ∀ {L : List (D × V × Value)}, (∀ p ∈ L, Rep X.K G.at_ F p.1 p.2.1 ∧ RelV p.2.1 p.2.2) → Reps X.K G.at_ F (L.map (·.1)) (L.map fun p => p.2.1) ∧ Vals (L.map fun p => p.2.1) (L.map fun p => p.2.2)
  | [], _ => ⟨.nil, .nil⟩
  | p :: L, h => by
    obtain ⟨h1, h2⟩ := trip_back fun q hq => h q (List.mem_cons_of_mem _ hq)
    exact ⟨.cons (h p List.mem_cons_self).1 h1, .cons (h p List.mem_cons_self).2 h2⟩
def sortD (ds : List D) : Option (List D) := if okHs 60 ds && cmpAll ds && decide (ds.length ≤ sizeLine) then some (srtD ds) else none
def dSort (d : D) : Option Res := (lstD d).bind fun xs => (sortD xs).map fun ys => .new (.lst (ys.map .d))
theorem cr_sort (hu : X.A.units + 140 < cLine) : CallR X (.builtin "sorted") (rBf X.K G (b1 dSort)) := by
  intro pins s σ H xs us Q I rx ⟨R, F, L, M, ws, res, rel, rw', e, q⟩
  unfold b1 at e
  split at e
  · cases rw' with
    | cons r1 rn =>
      cases rn
      obtain ⟨d, e1, e2⟩ := Option.bind_eq_some_iff.mp e
      obtain ⟨ds, e3, e4⟩ := Option.bind_eq_some_iff.mp e2
      obtain ⟨ys, e5, rfl⟩ := Option.map_eq_some_iff.mp e4
      unfold sortD at e5
      split at e5
      · rename_i hh
        cases e5
        simp only [Bool.and_eq_true, decide_eq_true_eq] at hh
        obtain ⟨⟨kd, kc⟩, kl⟩ := hh
        obtain ⟨a, vs, rfl, hs, rs⟩ := lstV rel.fh (rel.view r1 e1) e3
        obtain ⟨its, rv, hl, hz⟩ := I.list hs
        obtain ⟨u, rfl, ru⟩ := vals1 rx
        obtain rfl : u = Value.ref a := ru
        have hr := Reps.hr (G := G) I rel.fh rs rv kd
        obtain ⟨T, t1, t2, t3, al⟩ := trip (G := G) (n := 60) rs rv hr
        have hlen : its.length ≤ sizeLine := by rw [← rv.length]; exact hz
        refine sorted_ord (ltv := ltV s.heap) (swoV _) hl.isList hlen (fun h2 h₁ b hb kk => sortable hr kd kc (by show X.A.units + 1 + 1 + 130 < cLine; omega) fun h' keep c o ho hc => keep c o (kk c o ho).1 (kk c o ho).2) fun out so st => ?_
        obtain ⟨T1, f1, f2, f3⟩ := sorted_data (h := s.heap) (L := T) (fun p hp => (al p hp).2.2) (by rw [← t1]; exact kd) so (by rw [← t3]; exact st.perm)
        obtain ⟨b1, b2⟩ := trip_back (X := X) (G := G) (F := F) (L := T1) fun p hp => ⟨(al p (f2.mem_iff.mp hp)).1, (al p (f2.mem_iff.mp hp)).2.1⟩
        obtain ⟨ne, hne⟩ := sortedAll_at s.heap its out.toArray
        have hz1 : (T1.map fun p => p.2.1).length ≤ sizeLine := by rw [List.length_map, f2.length_eq, ← List.length_map (f := fun p : D × V × Value => p.2.1), ← t2]; exact hz
        have hn : H (s.heap.objs.size + 1) = none := I.hok.fresh (Nat.le_succ _)
        have hn0 : H (s.heap.objs.size + 1) = none := hn
        rw [f3, ← t1] at b1
        obtain ⟨g1, g2⟩ := rel.newLst (G := G) hn b1.toW
        refine ⟨.ref (s.heap.objs.size + 1), _, I.laid (t' := s.toks) (o := .lst (T1.map fun p => p.2.1)) (fun b o e => sortedAll_old e) (Nat.le_succ _) ⟨hz1, out, ne, by rw [f1]; exact b2, hne⟩, rfl, q _ F _ (.refl _) g1 g2⟩
      · cases e5
  · cases e
end
end Pm

set_option maxHeartbeats 6400000
/-! Q17: set(l), sorted(set(l)), len(set(l)) (printed by mkQ17.py) -/
namespace Pm
open PySem PySem.Spec PyProof.Rows L2 SrtO

/-- the members behind i items -/
def Gets (ks : List (Value × D)) (i : Nat) (L : List (Value × D)) : Prop := (∀ p ∈ L, p ∈ ks.take i) ∧ ∀ p ∈ ks.take i, p.2 ∈ L.map (·.2)
theorem Gets.same {ks L : List (Value × D)} {i : Nat} {x : Value × D} (g : Gets ks i L) (e : ks[i]? = some x) (hm : x.2 ∈ L.map (·.2)) : Gets ks (i + 1) L := by
  have ht : ks.take (i + 1) = ks.take i ++ [x] := by rw [List.take_succ, e]; rfl
  refine ⟨fun p hp => by rw [ht]; exact List.mem_append_left _ (g.1 p hp), fun p hp => ?_⟩
  rw [ht] at hp
  rcases List.mem_append.mp hp with z | z
  · exact g.2 p z
  · rw [List.mem_singleton.mp z]; exact hm
theorem Gets.more {ks L L' : List (Value × D)} {i : Nat} {x : Value × D} (g : Gets ks i L) (e : ks[i]? = some x) (pm : L'.Perm (x :: L)) : Gets ks (i + 1) L' := by
  have ht : ks.take (i + 1) = ks.take i ++ [x] := by rw [List.take_succ, e]; rfl
  refine ⟨fun p hp => ?_, fun p hp => ?_⟩
  · rw [ht]
    rcases List.mem_cons.mp (pm.mem_iff.mp hp) with rfl | z
    · exact List.mem_append_right _ (List.mem_singleton.mpr rfl)
    · exact List.mem_append_left _ (g.1 p z)
  · rw [(pm.map (·.2)).mem_iff, List.map_cons]
    rw [ht] at hp
    rcases List.mem_append.mp hp with z | z
    · exact List.mem_cons_of_mem _ (g.2 p z)
    · rw [List.mem_singleton.mp z]; exact List.mem_cons_self
/-- few different ones -/
def Few (ks : List (Value × D)) : Prop := ∀ l : List D, l.Nodup → (∀ x ∈ l, x ∈ ks.map (·.2)) → l.length < 63
section
variable {P : Program} {w : World} {A : Around} {E : Value → Shared → Prop} {s : Shared}
theorem feed {R : Result → Shared → Prop} {I : Addr} {fp wr : List Addr} {Γ : Array GenState → Array GenState → Prop} {n : Nat} {Pv : Nat → Value → Prop} {St : Nat → Shared → Prop} (T : SetTh P w) (Wk : WalksS P w A.in1 I fp wr Γ n Pv St) (S : Addr) (hSf : S ∉ fp)
    (h0 : Heap) (hk0 : ∀ b ∈ S :: wr, h0.get? b = none) (ks : List (Value × D)) (hlen : ks.length = n) (hv : ∀ i v, Pv i v → ∃ p, ks[i]? = some p ∧ p.1 = v) (hks : ∀ p ∈ ks, HR h0 p.2 p.1 ∧ okH 8 p.2 = true ∧ T.el p.2) (few : Few ks) (hu : A.units + 80 < cLine) :
    ∀ (k i : Nat) (s : Shared) (L : List (Value × D)), n - i = k → i ≤ n → St i s → T.T s.heap S L → Gets ks i L → (∀ b o, h0.get? b = some o → s.heap.get? b = some o) →
      (∀ s' L', Moved (S :: wr) Γ s s' → T.T s'.heap S L' → Gets ks n L' → R (.ok (.ret .none)) s') → codeAny (model P w) A (.builtin "set.update.loop" ⟨[.ref S, .ref I], []⟩) R s := by
  have hSw : S ∉ wr := fun h => hSf (Wk.sub _ h)
  have inS : ∀ b ∈ wr, b ∈ S :: wr := fun b hb => List.mem_cons_of_mem _ hb
  have nin : ∀ b o, h0.get? b = some o → b ∉ wr := fun b o e z => by rw [hk0 b (inS b z)] at e; cases e
  intro k
  induction k with
  | zero =>
    intro i s L hk hi hst hT hg kp hR
    have hin : i = n := by omega
    subst hin
    refine codeAny_builtin PyProof.Rows.F.entry_set_update_loop ?_
    rw [Around.under_plainId PyProof.Rows.F.plain_set_update_loop _]
    show wpAny _ A.in1 (pyNext (.ref I) >>= _) _ _ s
    refine wpAny_bind (Wk.done s _ _ hst fun s' hm => ?_)
    show wpAny _ A.in1 (ret Value.none) _ _ s'
    exact wpAny_pure (hR s' L (hm.mono inS) (T.keep hT (fun o e => hm.heap S _ hSw e) fun p hp => (hks p (List.mem_of_mem_take (hg.1 p hp))).1.keep fun b o e => hm.heap b o (nin b o e) (kp b o e)) hg)
  | succ k ih =>
    intro i s L hk hi hst hT hg kp hR
    have hlt : i < n := by omega
    refine codeAny_builtin PyProof.Rows.F.entry_set_update_loop ?_
    rw [Around.under_plainId PyProof.Rows.F.plain_set_update_loop _]
    show wpAny _ A.in1 (pyNext (.ref I) >>= _) _ _ s
    refine wpAny_bind (Wk.item i s _ _ hlt hst fun v s' hP hst' hm => ?_)
    obtain ⟨p, ep, rfl⟩ := hv i v hP
    have pm : p ∈ ks := List.mem_of_getElem? ep
    obtain ⟨q1, q2, q3⟩ := hks p pm
    have kp' : ∀ b o, h0.get? b = some o → s'.heap.get? b = some o := fun b o e => hm.heap b o (nin b o e) (kp b o e)
    have hT' : T.T s'.heap S L := T.keep hT (fun o e => hm.heap S _ hSw e) fun p hp => (hks p (List.mem_of_mem_take (hg.1 p hp))).1.keep kp'
    show wpAny _ A.in1 (holding [p.1] (setAdd S p.1) >>= _) _ _ s'
    refine wpAny_bind (wpAny_holding ?_)
    unfold setAdd
    refine wpAny_holding (wpAny_bind (hash_HR 8 q2 (q1.keep kp') (by show A.units + 1 + 8 < cLine; omega) fun tk htk => ?_))
    have room : L.length + 1 < 64 := by
      have z := few (L.map (·.2)) (T.nd hT).1 fun x hx => by
        obtain ⟨y, hy, e⟩ := List.mem_map.mp hx
        exact List.mem_map.mpr ⟨y, List.mem_of_mem_take (hg.1 y hy), e⟩
      rw [List.length_map] at z; omega
    refine T.add (s := { s' with toks := tk }) (by show A.units + 1 + 64 < cLine; omega) hT' (q1.keep kp') q2 q3 room fun b h' L' sb hT2 same more => ?_
    have g2 : Gets ks (i + 1) L' := by
      by_cases hmm : p.2 ∈ L.map (·.2)
      · rw [same hmm]; exact hg.same ep hmm
      · exact hg.more ep (more hmm)
    have nS : h0.get? S = none := hk0 S List.mem_cons_self
    refine wpAny_pure ⟨plainId_quiet PyProof.Rows.F.plain_set_update_loop _, ih (i + 1) _ L' (by omega) hlt (Wk.frame _ s' _ _ hst' htk fun b hb o e => ?_) hT2 g2 (fun b o e => ?_) fun s'' L'' hm'' hT'' hg'' => ?_⟩
    · exact (sb.2 b fun z : b = S => hSf (z ▸ hb)).trans e
    · exact (sb.2 b fun z : b = S => by rw [z, nS] at e; cases e).trans (kp' b o e)
    · exact hR s'' L'' (Moved.trans Wk.gtrans ((hm.mono inS).then_heap htk fun b o hb e => (sb.2 b fun z : b = S => hb (z ▸ List.mem_cons_self)).trans e) hm'') hT'' hg''
theorem newSet1 (x : Value) {Q₁ : Value → Shared → Prop} (h : Q₁ (.ref s.heap.objs.size) { s with heap := s.heap.push (freshSet w) }) : codeAny (model P w) A (.call (.builtin "set.__new__") ⟨[.type "set", x], []⟩) (wants Q₁ E) s := by
  refine codeAny_of_tree ?_
  show wpAny _ A.in1 (do checkBuiltinCall "set.__new__" ⟨[.type "set", x], []⟩; again (.builtin "set.__new__" ⟨[.type "set", x], []⟩)) _ _ s
  refine wpAny_bind (wpAny_of_eq (PySem.F.newCall_set_1 x) (wpAny_pure ⟨plainId_quiet PySem.F.plain_set_new _, codeAny_builtin PySem.F.entry_set_new ?_⟩))
  rw [Around.under_plainId PySem.F.plain_set_new _]
  unfold Builtin.«set.__new__» Builtin.Frozenset.newClass
  have hsub := sub_set_self
  obtain ⟨h1, g1, d1, k1, o1⟩ := s
  dsimp only
  wp_walk
  refine wpAny_askSetting (wpAny_pure ?_)
  dsimp only
  simp only [newObj]
  exact wpAny_bind (wpAny_alloc (wpAny_pure (wpAny_pure h)))
theorem call_set_list (T : SetTh P w) {l : Addr} {xs : Array Value} (ks : List (Value × D)) {Q : Value → Shared → Prop} (hn : A.handled = none) (hl : s.heap.IsList l xs) (hx : xs.toList = ks.map (·.1)) (hks : ∀ p ∈ ks, HR s.heap p.2 p.1 ∧ okH 8 p.2 = true ∧ T.el p.2)
    (few : Few ks) (hu : A.units + 90 < cLine) (h : ∀ (h' : Heap) (tk : Nat) L, T.T h' s.heap.objs.size L → Gets ks ks.length L → (∀ b o, s.heap.get? b = some o → h'.get? b = some o) → Q (.ref s.heap.objs.size) { s with heap := h', toks := tk }) :
    wpAny (model P w) A (call (.type "set") [.ref l]) Q E s := by
  obtain ⟨c0, t0, c_mro⟩ := PySem.F.called_set.mro
  have c_made := PySem.F.called_set.made
  have c_sub := PySem.F.called_set.sub
  refine wpAny_call (codeAny_of_tree ?_)
  show wpAny _ _ (callAny (.type "set") _) _ _ _
  refine wpAny_pure ⟨Code.quiet_builtin _ (by decide +kernel), codeAny_builtin PySem.F.entry_type_call ?_⟩
  rw [Around.under_plain (weight_type_call_type "set" [.ref l] []) rfl]
  have c_nt := PySem.F.called_set.notType
  have c_cc := PySem.F.called_set.canCreate
  have c_tc := PySem.F.typeCall_set_1 (.ref l)
  repeat (any_goals (first | assumption | wp_step))
  refine codeAny_mono (newSet1 (.ref l) (E := E) (Q₁ := fun ob s₁ => ob = .ref s.heap.objs.size ∧ s₁ = { s with heap := s.heap.push (freshSet w) }) ⟨rfl, rfl⟩) fun r s₁ hr => ?_
  cases r with
  | error e => exact hr
  | ok fl =>
    cases fl with
    | ret ob =>
      obtain ⟨rfl, rfl⟩ := hr
      have hS : (s.heap.push (freshSet w)).get? s.heap.objs.size = some (freshSet w) := Heap.get?_push_size _ rfl
      have hT : Shared.TypeIs { s with heap := s.heap.push (freshSet w) } (.ref s.heap.objs.size) "set" := ⟨_, hS, rfl⟩
      have c_li := PySem.F.called_set.init.lookup
      have c_bi := PySem.F.called_set.init.bind (.ref s.heap.objs.size)
      repeat (any_goals (first | assumption | wp_step))
      refine codeAny_mono (codeAny_call_builtin (R := wants (fun r s₂ => r = .none ∧ ∃ h' tk L, s₂ = { s with heap := h', toks := tk } ∧ T.T h' s.heap.objs.size L ∧ Gets ks ks.length L ∧ ∀ b o, s.heap.get? b = some o → h'.get? b = some o) E)
        PySem.F.called_set.init.plain PySem.F.entry_set_init (check_set_init_1 hT ?_)) fun r₂ s₂ hr₂ => ?_
      · obtain ⟨ol, hol, hcl, nl, hdl⟩ := hl
        obtain ⟨oc, od, odt, osl⟩ := ol
        simp only at hcl hdl
        subst hcl; subst hdl
        have hol' : (s.heap.push (freshSet w)).get? l = some { cls := .type "list", dict := od, data := .seq xs nl, slots := osl } := Heap.get?_push_of_some _ hol
        have c_s1 := PySem.F.sub_list_set
        have c_s2 := PySem.F.sub_list_frozenset
        have c_ne : (Value.type "list" == Value.type "dict") = false := by decide
        have hl1 : (s.heap.push (freshSet w)).IsList l xs := ⟨_, hol', rfl, nl, rfl⟩
        unfold Builtin.«set.__init__» noKeywords Builtin.Frozenset.updateFrom
        generalize hPI : pyIter = PI
        wp_walk
        subst hPI
        refine wpAny_pyIter_list hl1 (wpAny_bind (wpAny_runValue ?_))
        have l_lt : l < s.heap.objs.size := Heap.lt_size hol
        have hn3 : A.in1.in1.in1.handled = none := by simp [hn]
        have hz : (s.heap.push (freshSet w)).objs.size = s.heap.objs.size + 1 := by rw [Heap.size_push]
        have l_ne : l ≠ (s.heap.push (freshSet w)).objs.size := by rw [hz]; exact Nat.ne_of_lt (Nat.lt_succ_of_lt l_lt)
        have S_no : s.heap.objs.size ∉ [(s.heap.push (freshSet w)).objs.size, l] := by
          rw [hz]
          simp only [List.mem_cons, List.not_mem_nil, or_false, not_or]
          exact ⟨Nat.ne_of_lt (Nat.lt_succ_self _), fun z => Nat.ne_of_lt l_lt z.symm⟩
        have none0 : ∀ b ∈ s.heap.objs.size :: [(s.heap.push (freshSet w)).objs.size], s.heap.get? b = none := fun b hb => by
          cases e : s.heap.get? b with
          | none => rfl
          | some o =>
            have q := Heap.lt_size e
            rw [hz] at hb
            simp only [List.mem_cons, List.not_mem_nil, or_false] at hb
            rcases hb with z | z
            · rw [z] at q; exact absurd q (Nat.lt_irrefl _)
            · rw [z] at q; exact absurd q (Nat.not_lt_of_le (Nat.le_succ _))
        have len : ks.length = xs.size := by rw [← Array.length_toList, hx, List.length_map]
        have vat : ∀ (i : Nat) (v : Value), xs[i]? = some v → ∃ p, ks[i]? = some p ∧ p.1 = v := fun i v e => by
          rw [← Array.getElem?_toList, hx, List.getElem?_map] at e
          obtain ⟨p, e1, e2⟩ := Option.map_eq_some_iff.mp e
          exact ⟨p, e1, e2⟩
        refine feed T ((Walks.list hn3 _ l l_ne xs).toS) s.heap.objs.size S_no s.heap none0 ks len vat hks few (by show A.units + 1 + 1 + 80 < cLine; omega) (xs.size - 0) 0 _ [] (by omega) (Nat.zero_le _)
          ⟨⟨_, Heap.get?_push_size _ rfl, rfl, rfl⟩, (hl1.push _)⟩ (T.fresh (Heap.get?_push_of_some _ hS)) ⟨fun p hp => (by cases hp), fun p hp => (by simp at hp)⟩ (fun b o e => Heap.get?_push_of_some _ (Heap.get?_push_of_some _ e)) ?fin
        case fin =>
          intro s' L' hm hT' hg'
          obtain ⟨h', g', d', k', o'⟩ := s'
          have eg : g' = s.gens := hm.gens
          have ed : d' = s.drawn := hm.drawn
          have eo : o' = s.os := hm.os
          subst eg; subst ed; subst eo
          show wpAny _ _ _ _ _ _
          refine wpAny_pure ?_
          show wpAny _ _ (ret Value.none) _ _ _
          refine wpAny_pure ⟨rfl, h', k', L', rfl, hT', by rw [len]; exact hg', fun b o e => ?_⟩
          exact hm.heap b o (fun z => by rw [none0 b z] at e; cases e) (Heap.get?_push_of_some _ (Heap.get?_push_of_some _ e))
      · cases r₂ with
        | error e => exact hr₂
        | ok fl₂ =>
          cases fl₂ with
          | ret r =>
            obtain ⟨rfl, h', tk, L', rfl, hT', hg', hk'⟩ := hr₂
            repeat (any_goals (first | assumption | wp_step))
            exact h _ _ L' hT' hg' hk'
          | _ => exact hr₂.elim
    | _ => exact hr.elim
theorem call_set_tuple (T : SetTh P w) {l : Addr} {xs : Array Value} (ks : List (Value × D)) {Q : Value → Shared → Prop} (hn : A.handled = none) (hl : s.heap.IsTuple l xs) (hx : xs.toList = ks.map (·.1)) (hks : ∀ p ∈ ks, HR s.heap p.2 p.1 ∧ okH 8 p.2 = true ∧ T.el p.2)
    (few : Few ks) (hu : A.units + 90 < cLine) (h : ∀ (h' : Heap) (tk : Nat) L, T.T h' s.heap.objs.size L → Gets ks ks.length L → (∀ b o, s.heap.get? b = some o → h'.get? b = some o) → Q (.ref s.heap.objs.size) { s with heap := h', toks := tk }) :
    wpAny (model P w) A (call (.type "set") [.ref l]) Q E s := by
  obtain ⟨c0, t0, c_mro⟩ := PySem.F.called_set.mro
  have c_made := PySem.F.called_set.made
  have c_sub := PySem.F.called_set.sub
  refine wpAny_call (codeAny_of_tree ?_)
  show wpAny _ _ (callAny (.type "set") _) _ _ _
  refine wpAny_pure ⟨Code.quiet_builtin _ (by decide +kernel), codeAny_builtin PySem.F.entry_type_call ?_⟩
  rw [Around.under_plain (weight_type_call_type "set" [.ref l] []) rfl]
  have c_nt := PySem.F.called_set.notType
  have c_cc := PySem.F.called_set.canCreate
  have c_tc := PySem.F.typeCall_set_1 (.ref l)
  repeat (any_goals (first | assumption | wp_step))
  refine codeAny_mono (newSet1 (.ref l) (E := E) (Q₁ := fun ob s₁ => ob = .ref s.heap.objs.size ∧ s₁ = { s with heap := s.heap.push (freshSet w) }) ⟨rfl, rfl⟩) fun r s₁ hr => ?_
  cases r with
  | error e => exact hr
  | ok fl =>
    cases fl with
    | ret ob =>
      obtain ⟨rfl, rfl⟩ := hr
      have hS : (s.heap.push (freshSet w)).get? s.heap.objs.size = some (freshSet w) := Heap.get?_push_size _ rfl
      have hT : Shared.TypeIs { s with heap := s.heap.push (freshSet w) } (.ref s.heap.objs.size) "set" := ⟨_, hS, rfl⟩
      have c_li := PySem.F.called_set.init.lookup
      have c_bi := PySem.F.called_set.init.bind (.ref s.heap.objs.size)
      repeat (any_goals (first | assumption | wp_step))
      refine codeAny_mono (codeAny_call_builtin (R := wants (fun r s₂ => r = .none ∧ ∃ h' tk L, s₂ = { s with heap := h', toks := tk } ∧ T.T h' s.heap.objs.size L ∧ Gets ks ks.length L ∧ ∀ b o, s.heap.get? b = some o → h'.get? b = some o) E)
        PySem.F.called_set.init.plain PySem.F.entry_set_init (check_set_init_1 hT ?_)) fun r₂ s₂ hr₂ => ?_
      · obtain ⟨ol, hol, hcl, nl, hdl⟩ := hl
        obtain ⟨oc, od, odt, osl⟩ := ol
        simp only at hcl hdl
        subst hcl; subst hdl
        have hol' : (s.heap.push (freshSet w)).get? l = some { cls := .type "tuple", dict := od, data := .seq xs nl, slots := osl } := Heap.get?_push_of_some _ hol
        have c_s1 := PySem.F.sub_tuple_set
        have c_s2 := PySem.F.sub_tuple_frozenset
        have c_ne : (Value.type "tuple" == Value.type "dict") = false := by decide
        have hl1 : (s.heap.push (freshSet w)).IsTuple l xs := ⟨_, hol', rfl, nl, rfl⟩
        unfold Builtin.«set.__init__» noKeywords Builtin.Frozenset.updateFrom
        generalize hPI : pyIter = PI
        wp_walk
        subst hPI
        refine wpAny_pyIter_tuple hl1 (wpAny_bind (wpAny_runValue ?_))
        have l_lt : l < s.heap.objs.size := Heap.lt_size hol
        have hn3 : A.in1.in1.in1.handled = none := by simp [hn]
        have hz : (s.heap.push (freshSet w)).objs.size = s.heap.objs.size + 1 := by rw [Heap.size_push]
        have l_ne : l ≠ (s.heap.push (freshSet w)).objs.size := by rw [hz]; exact Nat.ne_of_lt (Nat.lt_succ_of_lt l_lt)
        have S_no : s.heap.objs.size ∉ [(s.heap.push (freshSet w)).objs.size, l] := by
          rw [hz]
          simp only [List.mem_cons, List.not_mem_nil, or_false, not_or]
          exact ⟨Nat.ne_of_lt (Nat.lt_succ_self _), fun z => Nat.ne_of_lt l_lt z.symm⟩
        have none0 : ∀ b ∈ s.heap.objs.size :: [(s.heap.push (freshSet w)).objs.size], s.heap.get? b = none := fun b hb => by
          cases e : s.heap.get? b with
          | none => rfl
          | some o =>
            have q := Heap.lt_size e
            rw [hz] at hb
            simp only [List.mem_cons, List.not_mem_nil, or_false] at hb
            rcases hb with z | z
            · rw [z] at q; exact absurd q (Nat.lt_irrefl _)
            · rw [z] at q; exact absurd q (Nat.not_lt_of_le (Nat.le_succ _))
        have len : ks.length = xs.size := by rw [← Array.length_toList, hx, List.length_map]
        have vat : ∀ (i : Nat) (v : Value), xs[i]? = some v → ∃ p, ks[i]? = some p ∧ p.1 = v := fun i v e => by
          rw [← Array.getElem?_toList, hx, List.getElem?_map] at e
          obtain ⟨p, e1, e2⟩ := Option.map_eq_some_iff.mp e
          exact ⟨p, e1, e2⟩
        refine feed T ((Walks.tuple hn3 _ l l_ne xs).toS) s.heap.objs.size S_no s.heap none0 ks len vat hks few (by show A.units + 1 + 1 + 80 < cLine; omega) (xs.size - 0) 0 _ [] (by omega) (Nat.zero_le _)
          ⟨⟨_, Heap.get?_push_size _ rfl, rfl, rfl⟩, (hl1.push _)⟩ (T.fresh (Heap.get?_push_of_some _ hS)) ⟨fun p hp => (by cases hp), fun p hp => (by simp at hp)⟩ (fun b o e => Heap.get?_push_of_some _ (Heap.get?_push_of_some _ e)) ?fin
        case fin =>
          intro s' L' hm hT' hg'
          obtain ⟨h', g', d', k', o'⟩ := s'
          have eg : g' = s.gens := hm.gens
          have ed : d' = s.drawn := hm.drawn
          have eo : o' = s.os := hm.os
          subst eg; subst ed; subst eo
          show wpAny _ _ _ _ _ _
          refine wpAny_pure ?_
          show wpAny _ _ (ret Value.none) _ _ _
          refine wpAny_pure ⟨rfl, h', k', L', rfl, hT', by rw [len]; exact hg', fun b o e => ?_⟩
          exact hm.heap b o (fun z => by rw [none0 b z] at e; cases e) (Heap.get?_push_of_some _ (Heap.get?_push_of_some _ e))
      · cases r₂ with
        | error e => exact hr₂
        | ok fl₂ =>
          cases fl₂ with
          | ret r =>
            obtain ⟨rfl, h', tk, L', rfl, hT', hg', hk'⟩ := hr₂
            repeat (any_goals (first | assumption | wp_step))
            exact h _ _ L' hT' hg' hk'
          | _ => exact hr₂.elim
    | _ => exact hr.elim
end
end Pm

set_option maxHeartbeats 2000000
/-! Q18: sorted(set(l)), len(set(l)) -/
namespace Pm
open PySem PySem.Spec PyProof.Rows L2 SrtO

/-! ### each once -/
def ddD : List D → List D
  | [] => []
  | x :: xs => if (ddD xs).any (dEq x) then ddD xs else x :: ddD xs
theorem ddD_sub : ∀ {ds : List D} {x : D}, x ∈ ddD ds → x ∈ ds
  | y :: ds, x, h => by
    unfold ddD at h
    split at h
    · exact List.mem_cons_of_mem _ (ddD_sub h)
    · rcases List.mem_cons.mp h with e | h
      · rw [e]; exact List.mem_cons_self
      · exact List.mem_cons_of_mem _ (ddD_sub h)
theorem ddD_nd : ∀ {n : Nat} {ds : List D}, okHs n ds = true → (ddD ds).Nodup ∧ ∀ x ∈ ds, x ∈ ddD ds
  | n, [], _ => ⟨List.nodup_nil, fun x h => by cases h⟩
  | n, y :: ds, h => by
    simp only [okHs, Bool.and_eq_true] at h
    obtain ⟨h1, h2⟩ := ddD_nd h.2
    have key : (ddD ds).any (dEq y) = true ↔ y ∈ ddD ds := by
      rw [List.any_eq_true]
      constructor
      · rintro ⟨z, hz, e⟩
        have kz : okH n z = true := by
          have := h.2
          rw [okHs_all, List.all_eq_true] at this
          exact this z (ddD_sub hz)
        rw [(dEq_iff n n _ _ h.1 kz).mp e]; exact hz
      · intro hz; exact ⟨y, hz, (dEq_iff n n _ _ h.1 h.1).mpr rfl⟩
    unfold ddD
    split
    · rename_i c
      refine ⟨h1, fun x hx => ?_⟩
      rcases List.mem_cons.mp hx with e | hx
      · rw [e]; exact key.mp c
      · exact h2 x hx
    · rename_i c
      refine ⟨List.nodup_cons.mpr ⟨fun z => c (key.mpr z), h1⟩, fun x hx => ?_⟩
      rcases List.mem_cons.mp hx with e | hx
      · rw [e]; exact List.mem_cons_self
      · exact List.mem_cons_of_mem _ (h2 x hx)
theorem nodup_len {α : Type} : ∀ {l m : List α}, l.Nodup → (∀ x ∈ l, x ∈ m) → l.length ≤ m.length
  | [], m, _, _ => Nat.zero_le _
  | x :: l, m, nd, h => by
    obtain ⟨h1, h2⟩ := List.nodup_cons.mp nd
    obtain ⟨m1, m2, e⟩ := List.append_of_mem (h x List.mem_cons_self)
    subst e
    have := nodup_len (l := l) (m := m1 ++ m2) h2 fun y hy => by
      have := h y (List.mem_cons_of_mem _ hy)
      rw [List.mem_append, List.mem_cons] at this
      rw [List.mem_append]
      rcases this with z | z | z
      · exact .inl z
      · exact absurd (z ▸ hy) h1
      · exact .inr z
    simp only [List.length_append, List.length_cons] at this ⊢
    omega
theorem nodup_perm {α : Type} : ∀ {l m : List α}, l.Nodup → m.Nodup → (∀ x, x ∈ l ↔ x ∈ m) → l.Perm m
  | [], m, _, _, h => by
    cases m with
    | nil => exact .refl _
    | cons y m => exact absurd ((h y).mpr List.mem_cons_self) (by simp)
  | x :: l, m, nd, nm, h => by
    obtain ⟨h1, h2⟩ := List.nodup_cons.mp nd
    obtain ⟨m1, m2, e⟩ := List.append_of_mem ((h x).mp List.mem_cons_self)
    subst e
    have pm : (m1 ++ x :: m2).Perm (x :: (m1 ++ m2)) := List.perm_middle
    have nm' := pm.nodup_iff.mp nm
    obtain ⟨n1, n2⟩ := List.nodup_cons.mp nm'
    refine List.Perm.trans (List.Perm.cons x (nodup_perm h2 n2 fun y => ?_)) pm.symm
    have hy := h y
    rw [List.mem_cons, pm.mem_iff, List.mem_cons] at hy
    constructor
    · intro z
      rcases hy.mp (.inr z) with e | z'
      · exact absurd (e ▸ z) h1
      · exact z'
    · intro z
      rcases hy.mpr (.inr z) with e | z'
      · exact absurd (e ▸ z) n1
      · exact z'
theorem srtD_eq {n : Nat} {l m : List D} (k : ∀ x ∈ l, okH n x = true) (p : l.Perm m) : srtD l = srtD m :=
  srt_uniq (n := n) (fun x hx => k x ((srtD_perm l).mem_iff.mp hx)) (((srtD_perm l).trans p).trans (srtD_perm m).symm) (srtD_srt l) (srtD_srt m)
mutual
theorem okH_mono : ∀ {n m : Nat} (d : D), n ≤ m → okH n d = true → okH m d = true
  | n, m, .int _, _, _ => by simp [okH]
  | n, m, .str _, _, h => by simpa [okH] using h
  | n + 1, m + 1, .tup xs, hm, h => by simp only [okH] at h ⊢; exact okHs_mono xs (by omega) h
  | n + 1, 0, .tup xs, hm, h => by omega
  | 0, m, .tup xs, hm, h => by simp [okH] at h
  | n, m, .non, hm, h => by simp [okH] at h
  | n, m, .bl _, hm, h => by simp [okH] at h
  | n, m, .lst _, hm, h => by simp [okH] at h
  | n, m, .obj _ _, hm, h => by simp [okH] at h
  | n, m, .ty _, hm, h => by simp [okH] at h
  | n, m, .cls _, hm, h => by simp [okH] at h
  | n, m, .scr _, hm, h => by simp [okH] at h
theorem okHs_mono : ∀ {n m : Nat} (d : List D), n ≤ m → okHs n d = true → okHs m d = true
  | n, m, [], _, _ => by simp [okHs]
  | n, m, x :: xs, hm, h => by
    simp only [okHs, Bool.and_eq_true] at h ⊢
    exact ⟨okH_mono x hm h.1, okHs_mono xs hm h.2⟩
end

/-! ### sorted(s), len(s) -/
section
variable {P : Program} {w : World} {A : Around} {E : Value → Shared → Prop} {s : Shared}
theorem sorted_th (T : SetTh P w) {a : Addr} {L : List (Value × D)} {Q : Value → Shared → Prop} (hT : T.T s.heap a L) (hn : A.handled = none) (hu : A.units + 140 < cLine) (c : cmpAll (L.map (·.2)) = true)
    (h : ∀ s' p (L1 : List (Value × D)) n, (∀ b o, s.heap.get? b = some o → s'.heap.get? b = some o) → s'.gens = s.gens → s'.os = s.os → s.heap.objs.size ≤ p → L1.Perm L → L1.map (·.2) = srtD (L.map (·.2)) → s'.heap.get? p = some (seqObj "list" (L1.map (·.1)).toArray n) → Q (.ref p) s') :
    wpAny (model P w) A (call (.builtin "sorted") [.ref a]) Q E s := by
  obtain ⟨es, ep, t, ha, hf, ris, led, rows⟩ := T.walk hT
  obtain ⟨nd, mem, few⟩ := T.nd hT
  have esz : es.size = L.length := by rw [← Array.length_toList, rows, rowsX_len]
  refine Calls.call_function_entry kind_sorted plain_sorted entry_sorted (args_sorted1 _) ?_
  unfold Builtin.«sorted»
  refine wpAny_bind (m := checkCount "sorted" 1 1 _) (wpAny_pure ?_)
  refine wpAny_bind (collect_set (A := A.in1) hn ha hf (by rw [esz]; unfold scanBound; omega) ris led fun s1 vs k1 hz g1 o1 pm => ?_)
  have pm' : vs.Perm (L.map (·.1)) := by rw [rows, rowsX, List.map_map] at pm; exact pm
  obtain ⟨L0, e0, p0⟩ := perm_map (fun p : Value × D => p.1) pm' L rfl
  have len0 : vs.length = L.length := by rw [e0, List.length_map, p0.length_eq]
  have lim : vs.length ≤ sizeLine := by rw [len0, sizeLine_eq]; omega
  refine wpAny_bind (wpAny_newList ?_ lim)
  have hoL : (s1.heap.push (seqObj "list" vs.toArray 0)).get? s1.heap.objs.size = some (seqObj "list" vs.toArray 0) := Heap.get?_push_size _ rfl
  have hrs : ∀ (l : List (Value × D)), (∀ p ∈ l, p ∈ L) → HRs s.heap (l.map (·.2)) (l.map (·.1)) ∧ okHs 60 (l.map (·.2)) = true := fun l => by
    induction l with
    | nil => intro _; exact ⟨.nil, by simp [okHs]⟩
    | cons p l ih =>
      intro hl
      obtain ⟨q1, q2⟩ := ih fun q hq => hl q (List.mem_cons_of_mem _ hq)
      obtain ⟨m1, m2⟩ := mem p (hl p List.mem_cons_self)
      exact ⟨.cons m1 q1, by simp only [List.map_cons, okHs, Bool.and_eq_true]; exact ⟨okH_mono _ (by decide) m2, q2⟩⟩
  obtain ⟨r0, kd0⟩ := hrs L0 fun p hp => p0.mem_iff.mp hp
  rw [← e0] at r0
  have c0 : cmpAll (L0.map (·.2)) = true := by
    unfold cmpAll at c ⊢
    rw [List.all_eq_true] at c ⊢
    intro x hx
    have hx' := ((p0.map (·.2)).mem_iff).mp hx
    have cx := c x hx'
    rw [List.all_eq_true] at cx ⊢
    exact fun y hy => cx y (((p0.map (·.2)).mem_iff).mp hy)
  refine wpAny_bind (wpAny_holding (wpAny_call_entry slot_list_sort ⟨_, hoL, rfl⟩ entry_list_sort (list_sort_ord (ltv := ltV s.heap) (swoV _) hoL lim (fun h2 => sortable r0 kd0 c0 (by show A.units + 1 + 1 + 130 < cLine; omega) fun h' keep b o ho hc => ?_) fun out so st => ⟨_, rfl, ?_⟩) (args_list_sort _)))
  · have lt := Heap.lt_size ho
    exact keep b o (Nat.ne_of_lt (Nat.lt_of_lt_of_le lt hz)) (Heap.get?_push_of_some _ (k1 b o ho))
  · obtain ⟨L1, e1, p1⟩ := perm_map (fun p : Value × D => p.1) (st.perm.trans (List.Perm.of_eq e0)) L0 rfl
    have data : L1.map (·.2) = srtD (L.map (·.2)) := by
      have kdL : ∀ x ∈ L1.map (·.2), okH 60 x = true := fun x hx => by
        have := kd0
        rw [okHs_all, List.all_eq_true] at this
        exact this x ((p1.map (·.2)).mem_iff.mp hx)
      refine srt_uniq kdL (((p1.trans p0).map (·.2)).trans (srtD_perm _).symm) ?_ (srtD_srt _)
      rw [e1] at so
      have so := List.pairwise_map.mp so
      refine List.pairwise_map.mpr (List.Pairwise.imp_of_mem (fun {p q} hp hq z => ?_) so)
      rw [leD_not]
      have z' : ltV s.heap q.1 p.1 = false := z
      unfold ltV at z'
      rw [dOf_eq (mem q ((p1.trans p0).mem_iff.mp hq)).1, dOf_eq (mem p ((p1.trans p0).mem_iff.mp hp)).1] at z'
      rw [z']; rfl
    obtain ⟨ne, hne⟩ := sortedHeap_at (vs := vs) (out := out.toArray) hoL
    refine wpAny_pure ⟨_, rfl, h _ s1.heap.objs.size L1 ne (fun b o ho => ?_) g1 o1 hz (p1.trans p0) data (by rw [← e1]; exact hne)⟩
    have q := k1 b o ho
    have lt := Heap.lt_size q
    show (sortedHeap (s1.heap.push (seqObj "list" vs.toArray 0)) s1.heap.objs.size vs out.toArray).get? b = some o
    rw [sortedHeap_old (Nat.ne_of_lt lt) (by rw [size_push']; exact Nat.lt_succ_of_lt lt)]
    exact Heap.get?_push_of_some _ q
theorem len_th (T : SetTh P w) {a : Addr} {L : List (Value × D)} {Q : Value → Shared → Prop} (hT : T.T s.heap a L) (h : Q (.int L.length (s.toks + 1)) { s with toks := s.toks + 1 + 1 }) (ex : ∃ o, s.heap.get? a = some o ∧ o.ExactSet) : wpAny (model P w) A (call (.builtin "len") [.ref a]) Q E s := by
  obtain ⟨es, ep, t, ha, hf, ris, led, rows⟩ := T.walk hT
  obtain ⟨nd, mem, few⟩ := T.nd hT
  have esz : es.size = L.length := by rw [← Array.length_toList, rows, rowsX_len]
  obtain ⟨o, ho, hx⟩ := ex
  obtain ⟨o', ho', hc, hd⟩ := ha
  rw [ho] at ho'; cases ho'
  exact call_len_set ho hx hd hf (by rw [esz]; omega) (by rw [esz]; exact h)
end

/-! ### as rules -/
section
variable {X : Cx} {G : Cl} {Wx : WX}
def allTup (ds : List D) : Bool := ds.all fun d => match d with
  | .tup _ => true
  | _ => false
def setOk (ds : List D) : Bool := okHs 8 ds && (ds.all isSc || allTup ds) && decide ((ddD ds).length < 63)
def dSortSet (d : D) : Option Res := (seqD d).bind fun ds => if setOk ds && cmpAll ds then some (.new (.lst ((srtD (ddD ds)).map .d))) else none
def dLenSet (d : D) : Option Res := (seqD d).bind fun ds => if setOk ds then some (.d (.int (ddD ds).length)) else none
/-- id(set(e)) -/
theorem pe_onSet {x : Str} {id : String} {e : Expr} {es : List Expr} {t : TA} {p p2 q pos : Pos} {r : List V → Hp → VK → Prop} (hg : Gl X x) (hm : X.mg x = none) (hv : bootBuiltins x = some (.builtin id)) (hg2 : Gl X "set") (hm2 : X.mg "set" = none) (ha : PA X (e :: es) t)
    (hc : ∀ (pins : List (Addr × Obj)) (s : Shared) (σ : L2.St) (H : Hp) (xs : List V) (us : List Value) (Q : VK), Inv X pins σ H s → Vals xs us → r xs H Q → wpAny (model X.prog X.w) X.A (call (.type "set") us) (fun v s1 => wpAny (model X.prog X.w) X.A (call (.builtin id) [v]) (EP X pins σ Q) X.xe s1) X.xe s)
    (hn : x ≠ "__name__" := by decide) (hdb : (x == ("__debug__" : Str)) = false := by decide) (he : starEach (e :: es) X.env = (false, eval e X.env) :: starEach es X.env := by rfl) (hpl : (backTo q (starEach es X.env)).any (·.1) = false := by rfl) :
    PE X (.Call (.Name x p) [.Call (.Name "set" p2) (e :: es) [] q] [] pos) (tCB r t) := by
  refine ⟨fun pins s σ H Q I h => ?_⟩
  refine wpAny_Call_Name_kw (ld_blt I hg hm hv ?_ hn hdb)
  refine PyProof.Rows.callWith_builtin1 (PyProof.Rows.args_cons ?_ rfl) rfl rfl
  refine wpAny_Call_Name_kw (ld_blt I hg2 hm2 (show bootBuiltins "set" = some (.type "set") by decide +kernel) ?_)
  refine PyProof.Rows.callWith_type1 (thn (ha.run q pins s σ H _ I h) fun us s1 ⟨vs, H1, I1, r1, q1⟩ => ?_) he hpl
  exact wpAny_mono (hc pins s1 σ H1 vs us Q I1 r1 q1) (fun v s2 z => PyProof.Rows.args_nil z) fun _ _ z => z
/-- the theory that fits, the set made -/
theorem make_set (hc : X.calm = true) (hu : X.A.units + 160 < cLine) {pins : List (Addr × Obj)} {s : Shared} {σ : L2.St} {H : Hp} {R F : Hp} {L : List Addr} {M : List (Option Cell)} {d : D} {ds : List D} {v : V} {us : List Value} {Q : Value → Shared → Prop} (I : Inv X pins σ H s)
    (rel : Rel X.K G.at_ R F L M H) (rv : RepV X.K G.at_ F H d v) (rx : Vals [v] us) (e : seqD d = some ds) (ok : setOk ds = true)
    (h : ∀ (T : SetTh X.prog X.w) (a : Addr) (T0 : List (D × V × Value)) (h' : Heap) (tk : Nat) (Ls : List (Value × D)), Inv X pins σ H { s with heap := h', toks := tk } → T.T h' a Ls → (∃ o, h'.get? a = some o ∧ o.ExactSet) → (Ls.map (·.2)).Perm (ddD ds) → (∀ p ∈ Ls, ∃ q ∈ T0, q.1 = p.2 ∧ q.2.2 = p.1) →
      (∀ p ∈ T0, Rep X.K G.at_ F p.1 p.2.1 ∧ RelV p.2.1 p.2.2) → Q (.ref a) { s with heap := h', toks := tk }) : wpAny (model X.prog X.w) X.A (call (.type "set") us) Q X.xe s := by
  unfold setOk at ok
  simp only [Bool.and_eq_true, Bool.or_eq_true, decide_eq_true_eq] at ok
  obtain ⟨⟨kd, el⟩, few⟩ := ok
  obtain ⟨a, vs, rfl, hs, rs⟩ := seqV rel.fh rv e
  obtain ⟨u, rfl, ru⟩ := vals1 rx
  obtain rfl : u = Value.ref a := ru
  have main : ∀ its : List Value, Vals vs its → (∀ (T : SetTh X.prog X.w) (ks : List (Value × D)), its = ks.map (·.1) → (∀ p ∈ ks, HR s.heap p.2 p.1 ∧ okH 8 p.2 = true ∧ T.el p.2) → Few ks →
      (∀ (h' : Heap) (tk : Nat) L, T.T h' s.heap.objs.size L → Gets ks ks.length L → (∀ b o, s.heap.get? b = some o → h'.get? b = some o) → Q (.ref s.heap.objs.size) { s with heap := h', toks := tk }) → wpAny (model X.prog X.w) X.A (call (.type "set") [.ref a]) Q X.xe s) →
      wpAny (model X.prog X.w) X.A (call (.type "set") [.ref a]) Q X.xe s := fun its rvs go => by
    have hr := Reps.hr (G := G) I rel.fh rs rvs kd
    obtain ⟨T0, t1, t2, t3, al⟩ := trip (G := G) (n := 8) rs rvs hr
    have kdA := kd
    rw [okHs_all, List.all_eq_true] at kdA
    obtain ⟨nd, all⟩ := ddD_nd kd
    have mem0 : ∀ p ∈ T0, p.1 ∈ ds := fun p hp => by rw [t1]; exact List.mem_map.mpr ⟨p, hp, rfl⟩
    have ksd : (T0.map fun p => (p.2.2, p.1)).map (·.2) = ds := by rw [t1, List.map_map]; rfl
    have fw : Few (T0.map fun p => (p.2.2, p.1)) := fun l hl hx => Nat.lt_of_le_of_lt (nodup_len hl fun x hxl => all x (by have := hx x hxl; rwa [ksd] at this)) few
    have fin : ∀ (T : SetTh X.prog X.w), (∀ p ∈ T0, T.el p.1) → wpAny (model X.prog X.w) X.A (call (.type "set") [.ref a]) Q X.xe s := fun T hel => by
      refine go T (T0.map fun p => (p.2.2, p.1)) (by rw [t3, List.map_map]; rfl) (fun p hp => ?_) fw fun h' tk Ls hT hg kp => ?_
      · obtain ⟨q, hq, rfl⟩ := List.mem_map.mp hp
        exact ⟨(al q hq).2.2, kdA _ (mem0 q hq), hel q hq⟩
      · have hT' := hT
        obtain ⟨es, ep, t, ⟨o, ho, hcl, hd⟩, _⟩ := T.walk hT
        have I2 : Inv X pins σ H { s with heap := h', toks := tk } := I.kept kp
        refine h T _ T0 h' tk Ls I2 hT' (T.exact hT) (nodup_perm (T.nd hT).1 nd fun x => ⟨fun hx => ?_, fun hx => ?_⟩) (fun p hp => ?_) fun p hp => ⟨(al p hp).1, (al p hp).2.1⟩
        · obtain ⟨p, hp, rfl⟩ := List.mem_map.mp hx
          have := List.mem_of_mem_take (hg.1 p hp)
          exact all _ (by rw [← ksd]; exact List.mem_map.mpr ⟨p, this, rfl⟩)
        · have hx' := ddD_sub hx
          rw [← ksd] at hx'
          obtain ⟨p, hp, rfl⟩ := List.mem_map.mp hx'
          exact hg.2 p (by rw [List.take_length]; exact hp)
        · have := List.mem_of_mem_take (hg.1 p hp)
          obtain ⟨q, hq, e⟩ := List.mem_map.mp this
          exact ⟨q, hq, by rw [← e], by rw [← e]⟩
    rcases el with el | el
    · rw [List.all_eq_true] at el
      exact fin (scSets X.prog X.w) fun p hp => el _ (mem0 p hp)
    · unfold allTup at el
      rw [List.all_eq_true] at el
      refine fin (tupSets X.prog X.w) fun p hp => ?_
      have := el _ (mem0 p hp)
      show ∃ ds, p.1 = .tup ds
      cases z : p.1 with
      | tup xs => exact ⟨xs, rfl⟩
      | _ => rw [z] at this; cases this
  rcases hs with hs | hs
  · obtain ⟨its, rvs, pl, hz⟩ := I.list hs
    exact main its rvs fun T ks e1 e2 e3 k => call_set_list T ks (I.ok.hd hc) pl.isList (by simpa using e1) e2 e3 (by omega) k
  · obtain ⟨its, rvs, pl, hz⟩ := I.tuple hs
    exact main its rvs fun T ks e1 e2 e3 k => call_set_tuple T ks (I.ok.hd hc) pl (by simpa using e1) e2 e3 (by omega) k
theorem pick_trip {F : Hp} {T0 : List (D × V × Value)} : ∀ {L1 : List (Value × D)}, (∀ p ∈ L1, ∃ q ∈ T0, q.1 = p.2 ∧ q.2.2 = p.1) → ∃ T1 : List (D × V × Value), T1.map (·.1) = L1.map (·.2) ∧ T1.map (fun p => p.2.2) = L1.map (·.1) ∧ ∀ p ∈ T1, p ∈ T0
  | [], _ => ⟨[], rfl, rfl, fun p hp => by cases hp⟩
  | x :: L1, h => by
    obtain ⟨T1, e1, e2, e3⟩ := pick_trip (F := F) (L1 := L1) fun p hp => h p (List.mem_cons_of_mem _ hp)
    obtain ⟨q, hq, f1, f2⟩ := h x List.mem_cons_self
    refine ⟨q :: T1, by simp [e1, f1], by simp [e2, f2], fun p hp => ?_⟩
    rcases List.mem_cons.mp hp with rfl | hp
    · exact hq
    · exact e3 p hp
theorem cr_sortSet (hc : X.calm = true) (hu : X.A.units + 160 < cLine) (pins : List (Addr × Obj)) (s : Shared) (σ : L2.St) (H : Hp) (xs : List V) (us : List Value) (Q : VK) (I : Inv X pins σ H s) (rx : Vals xs us) (q : rBf X.K G (b1 dSortSet) xs H Q) :
    wpAny (model X.prog X.w) X.A (call (.type "set") us) (fun v s1 => wpAny (model X.prog X.w) X.A (call (.builtin "sorted") [v]) (EP X pins σ Q) X.xe s1) X.xe s := by
  obtain ⟨R, F, L, M, ws, res, rel, rw', e, q⟩ := q
  unfold b1 at e
  split at e
  · cases rw' with
    | cons r1 rn =>
      cases rn
      obtain ⟨d, e1, e2⟩ := Option.bind_eq_some_iff.mp e
      obtain ⟨ds, e3, e4⟩ := Option.bind_eq_some_iff.mp e2
      split at e4
      · rename_i hh
        cases e4
        rw [Bool.and_eq_true] at hh
        have kd : okHs 8 ds = true := by have := hh.1; unfold setOk at this; simp only [Bool.and_eq_true] at this; exact this.1.1
        refine make_set (G := G) hc hu I rel (rel.view r1 e1) rx e3 hh.1 fun T a T0 h' tk Ls I2 hT hex pm hin hT0 => ?_
        have cL : cmpAll (Ls.map (·.2)) = true := by
          have c := hh.2
          unfold cmpAll at c ⊢
          rw [List.all_eq_true] at c ⊢
          intro x hx
          have cx := c x (ddD_sub (pm.mem_iff.mp hx))
          rw [List.all_eq_true] at cx ⊢
          exact fun y hy => cx y (ddD_sub (pm.mem_iff.mp hy))
        refine sorted_th T (s := { s with heap := h', toks := tk }) hT (I2.ok.hd hc) (by omega) cL fun s' p L1 n k g o hp pm1 data hget => ?_
        obtain ⟨T1, f1, f2, f3⟩ := pick_trip (F := F) (T0 := T0) (L1 := L1) fun z hz => hin z (pm1.mem_iff.mp hz)
        obtain ⟨b1, b2⟩ := trip_back (X := X) (G := G) (F := F) (L := T1) fun z hz => hT0 z (f3 z hz)
        have kL : ∀ x ∈ Ls.map (·.2), okH 8 x = true := fun x hx => by
          rw [okHs_all, List.all_eq_true] at kd
          exact kd x (ddD_sub (pm.mem_iff.mp hx))
        have few : L1.length ≤ sizeLine := by
          rw [pm1.length_eq, sizeLine_eq]
          have := (T.nd hT).2.2
          omega
        rw [f1, data, srtD_eq kL pm] at b1
        rw [f2] at b2
        have hn : H p = none := I2.hok.fresh hp
        obtain ⟨g1, g2⟩ := rel.newLst (G := G) hn b1.toW
        have lenV : (T1.map fun p => p.2.1).length ≤ sizeLine := by rw [List.length_map]; have := congrArg List.length f2; simp only [List.length_map] at this; omega
        have J := I2.call' (s' := s') (ch := []) o (Un.laid k hp hn) (I2.hok.laid (o := .lst (T1.map fun p => p.2.1)) k hp ⟨lenV, _, n, b2, hget⟩) (by rw [g]; exact I2.bare) (fun _ z => nomatch z)
        exact ⟨.ref p, _, J, rfl, q _ F _ (.refl _) g1 g2⟩
      · cases e4
  · cases e
theorem cr_lenSet (hc : X.calm = true) (hu : X.A.units + 160 < cLine) (pins : List (Addr × Obj)) (s : Shared) (σ : L2.St) (H : Hp) (xs : List V) (us : List Value) (Q : VK) (I : Inv X pins σ H s) (rx : Vals xs us) (q : rBf X.K G (b1 dLenSet) xs H Q) :
    wpAny (model X.prog X.w) X.A (call (.type "set") us) (fun v s1 => wpAny (model X.prog X.w) X.A (call (.builtin "len") [v]) (EP X pins σ Q) X.xe s1) X.xe s := by
  obtain ⟨R, F, L, M, ws, res, rel, rw', e, q⟩ := q
  unfold b1 at e
  split at e
  · cases rw' with
    | cons r1 rn =>
      cases rn
      obtain ⟨d, e1, e2⟩ := Option.bind_eq_some_iff.mp e
      obtain ⟨ds, e3, e4⟩ := Option.bind_eq_some_iff.mp e2
      split at e4
      · rename_i hh
        cases e4
        refine make_set (G := G) hc hu I rel (rel.view r1 e1) rx e3 hh fun T a T0 h' tk Ls I2 hT hex pm hin hT0 => ?_
        have hlen : Ls.length = (ddD ds).length := by rw [← pm.length_eq, List.length_map]
        refine len_th T (s := { s with heap := h', toks := tk }) hT ?_ hex
        refine ⟨.int (ddD ds).length, H, I2.tok _, ⟨_, by rw [hlen]⟩, q _ F H (.refl _) rel (.int _)⟩
      · cases e4
  · cases e
variable {p p2 q pos : Pos} {e : Expr} {fa : Ev (List W)}
theorem se_sortSet (hc : X.calm = true) (hu : X.A.units + 160 < cLine) (hg : Gl X "sorted") (hm : X.mg "sorted" = none) (hg2 : Gl X "set") (hm2 : X.mg "set" = none) (ha : SA X G Wx [e] fa)
    (he : starEach [e] X.env = (false, eval e X.env) :: starEach [] X.env := by rfl) : SE X G Wx (.Call (.Name "sorted" p) [.Call (.Name "set" p2) [e] [] q] [] pos) (eBf (b1 dSortSet) fa) :=
  ⟨PE_imp (pe_onSet hg hm (by decide +kernel) hg2 hm2 ha.pa (cr_sortSet (G := G) hc hu) (he := he)) fun _ _ _ t => tCB_of t, bel_bf ha.bel⟩
theorem se_lenSet (hc : X.calm = true) (hu : X.A.units + 160 < cLine) (hg : Gl X "len") (hm : X.mg "len" = none) (hg2 : Gl X "set") (hm2 : X.mg "set" = none) (ha : SA X G Wx [e] fa)
    (he : starEach [e] X.env = (false, eval e X.env) :: starEach [] X.env := by rfl) : SE X G Wx (.Call (.Name "len" p) [.Call (.Name "set" p2) [e] [] q] [] pos) (eBf (b1 dLenSet) fa) :=
  ⟨PE_imp (pe_onSet hg hm (by decide +kernel) hg2 hm2 ha.pa (cr_lenSet (G := G) hc hu) (he := he)) fun _ _ _ t => tCB_of t, bel_bf ha.bel⟩
end
end Pm

set_option maxHeartbeats 2000000
/-! Q19: starred items, own items, own lengths, own == as expressions; returning data -/
namespace Pm
open PySem PyProof.Rows L2

section
variable {X : Cx} {G : Cl} {Wx : WX} {pos : Pos}
/-- return, what is given is closed -/
def fRetD (f : Ev Res) : Ev Fl := (evD f).bind fun d => fun st => some (.ok (.ret (.d d)), st)
theorem ss_retD {e : Expr} {f : Ev Res} (he : SE X G Wx e f) : SS X G Wx (.Return (some e) pos) (fRetD f) :=
  ⟨PS_imp (ps_ret he.pe) fun D σ H ⟨R, F, L, st, ok, o⟩ => tE_D ok (OutS.bind (f := evD f) o fun d st1 F1 L1 H1 x1 ok1 o1 v rv => o1 σ F1 L1 H1 (.refl _ _) ok1 v rv), (bel_evD he.bel).bind fun _ => .pure⟩

/-! ### *e in displays and arguments -/
def seqW (M : List (Option Cell)) : W → Option (List W)
  | .d (.lst ds) => some (ds.map .d)
  | .d (.tup ds) => some (ds.map .d)
  | .d (.scr ds) => some (ds.map .d)
  | .loc i => match M[i]? with
    | some (some (.lst ws)) => some ws
    | _ => none
  | _ => none
def eaStar (h : Ev W) (r : Ev (List W)) : Ev (List W) := h.bind fun w => fun st => match seqW st.M w with
  | some xs => (r.bind fun ws => fun st => some (.ok (xs ++ ws), st)) st
  | none => none
theorem seqW_ok {K : PySem.W.Frag} {g : Nat → Addr} {R F H : Hp} {L : List Addr} {M : List (Option Cell)} {w : W} {v : V} {xs : List W} (rel : Rel K g R F L M H) (r : RepW K g F L w v) (h : seqW M w = some xs) :
    ∃ p vs, v = .ref p ∧ (SqT K H p vs ∨ SqL K H p vs) ∧ RepWs K g F L xs vs := by
  cases w with
  | d x =>
    cases x <;> simp only [seqW] at h <;> first | cases h | skip
    · cases r with
      | tup s rs => exact ⟨_, _, rfl, .inl (sub_t rel.fh s), rs.toW⟩
    · cases r with
      | lst s rs => exact ⟨_, _, rfl, .inr (SqL.of (rel.fh _ _ s)), rs.toW⟩
    · cases r with
      | scr s rs => exact ⟨_, _, rfl, .inr (sub_l rel.fh s), rs.toW⟩
  | loc i =>
    obtain ⟨a, ha, rfl⟩ := r
    simp only [seqW] at h
    split at h
    · rename_i ws hc
      cases h
      obtain ⟨b, hb, _, _, vs, hv, rs⟩ := rel.ce _ _ hc
      rw [ha] at hb; cases hb
      exact ⟨a, vs, rfl, .inr (SqL.of hv), rs⟩
    · cases h
theorem sa_star {e : Expr} {es : List Expr} {f : Ev Res} {h : Ev W} {r : Ev (List W)} {p : Pos} (hw : AsW f h) (he : SE X G Wx e f) (hr : SA X G Wx es r) (hs : starEach (.Starred e p :: es) X.env = (true, eval e X.env) :: starEach es X.env := by rfl) :
    SA X G Wx (.Starred e p :: es) (eaStar h r) :=
  ⟨PA_imp (StX.pa_star he.pe hr.pa hs) fun σ H Q ⟨R, F, L, st, ok, o⟩ => by
    refine tE_of ok (hw.out (OutP.bind (f := h) o fun w st1 F1 L1 H1 x1 ok1 o1 v rv => ?_))
    cases e1 : seqW st1.M w with
    | none => rw [e1] at o1; exact o1.elim
    | some xs =>
      rw [e1] at o1
      obtain ⟨p, vs, rfl, hq, rx⟩ := seqW_ok ok1.rel rv e1
      refine ⟨p, vs, rfl, hq, R, F1, L1, st1, ok1, OutP.bind (f := r) o1 fun ws st2 F2 L2 H2 x2 ok2 o2 zs rz => ?_⟩
      exact o2 F2 L2 H2 (.refl _ _) ok2 (vs ++ zs) ((rx.ext x2).append rz), (hw.bel he.bel).bind fun w => fun st o st' hb e => by
    cases e1 : seqW st.M w with
    | none => rw [e1] at e; cases e
    | some xs =>
      rw [e1] at e
      exact (hr.bel.bind fun _ => .pure) _ _ _ hb e⟩

/-! ### own == -/
variable {a b : Expr} {f h : Ev Res} {op : CmpOp} {c : Nat} {ts : List Tg} {neg : Bool} {fs : Fn}
theorem se_ownEq (ho : OpS X (compareOp op) (rOwnE X.K G Wx fs c ts neg)) (fb : FnB fs) (ha : SE X G Wx a f) (hb : SE X G Wx b h) (hm : behindInMarks op b = false := by first | exact nomark _ | rfl) : SE X G Wx (.Compare a [op] [b] pos) (eOwnEq fs c ts neg f h) :=
  ⟨PE_imp (pe_cmpS ho ha.pe hb.pe hm) fun _ _ _ t => tOwnEq_of t, bel_ownEq fb ha.bel hb.bel⟩
theorem st_ownEq (ho : OpS X (compareOp op) (rOwnE X.K G Wx fs c ts neg)) (fb : FnB fs) (ha : SE X G Wx a f) (hb : SE X G Wx b h) (hm : behindInMarks op b = false := by first | exact nomark _ | rfl) : ST X G Wx (.Compare a [op] [b] pos) (eB (eOwnEq fs c ts neg f h)) :=
  ⟨PT_imp (pt_cmpS ho ha.pe hb.pe hm) fun σ H Q t => by
    obtain ⟨R, F, L, st, ok, o⟩ := tB_of t
    exact tOwnEq_of ⟨R, F, L, st, ok, o⟩, bel_B (bel_ownEq fb ha.bel hb.bel)⟩

/-! ### own items: o[i] -/
structure OwnM (K : PySem.W.Frag) (C : Addr) (m : Str) (f : Addr) : Prop where
  at_ : PySem.W.findIn K (.ref C) m = some (some (.ref f))
  fn : PySem.W.isFn K (.ref f) = true
  fi : PySem.W.fnIn K f = true
def eOwn2 (fs : Fn) (c : Nat) (hf hh : Ev W) : Ev Res := hf.bind fun w => hh.bind fun u => fun st => if isCls st.M c w then eCallF fs [w, u] st else none
def rOwn2 (K : PySem.W.Frag) (G : Cl) (Wx : WX) (fs : Fn) (c : Nat) : L2.St → R2 := fun σ x y H Q => ∃ R F L M w u, Rel K G.at_ R F L M H ∧ RepW K G.at_ F L w x ∧ RepW K G.at_ F L u y ∧ isCls M c w = true ∧ OutF K G.at_ R F L Q (WE Wx σ) (fs [w, u] M)
theorem tOwn2_of {K : PySem.W.Frag} {hf hh : Ev W} (wf : AsW f hf) (wh : AsW h hh) {σ : L2.St} {H : Hp} {Q : VK} (t : tE K G Wx (eOwn2 fs c hf hh) σ H Q) : tOpS (rOwn2 K G Wx fs c) (tE K G Wx f) (tE K G Wx h) σ H Q := by
  obtain ⟨R, F, L, st, ok, o⟩ := t
  refine tE_of ok (wf.out (OutP.bind (f := hf) o fun w st1 F1 L1 H1 x1 ok1 o1 v rv => ?_))
  refine tE_of ok1 (wh.out (OutP.bind (f := hh) o1 fun u st2 F2 L2 H2 x2 ok2 o2 v2 ru => ?_))
  split at o2
  · rename_i hc
    exact ⟨R, F2, L2, st2.M, w, u, ok2.rel, rv.ext x2, ru, hc, call_out ok2 o2 fun r st3 F3 L3 H3 z x3 ok3 p rr => p z rr⟩
  · exact o2.elim
theorem bel_own2 {hf hh : Ev W} (fb : FnB fs) (bf : Bel hf) (bh : Bel hh) : Bel (eOwn2 fs c hf hh) := bf.bind fun w => bh.bind fun u => fun st o st' hb e => by
  split at e
  · exact bel_callF fb _ _ _ _ hb e
  · cases e
variable {z : Bool} {k : Nat} {fa : Addr} {fd : FuncData} {ps : List Str} {hf hh : Ev W}
theorem se_ownIx (q : OwnM X.K (G.at_ c) "__getitem__" fa) (F : FnZ z X.prog X.w X.K X.mg X.base (L2.CX X.prog X.w) k fa fd ps (spF X.K G.at_ ps.length fs)) (fb : FnB fs) (h2 : ps.length = 2) (hr : Room (k + 1) X.A) (hz : z = true → X.A.guards = some []) (tk : Takes X Wx) (hb : Binds X.K fd ps [])
    (wf : AsW f hf) (wh : AsW h hh) (ha : SE X G Wx a f) (hi : SE X G Wx b h) (hsl : ∀ o i, subscripted b true o i = runValue (.builtin "lifetime.subscript" ⟨[o, i], []⟩) := by exact fun _ _ => rfl) : SE X G Wx (.Subscript a b pos) (eOwn2 fs c hf hh) :=
  ⟨PE_imp (t := tOpS (rOwn2 X.K G Wx fs c) (tE X.K G Wx f) (tE X.K G Wx h)) ⟨fun pins s σ H Q I t => by
    refine Subscript_ (thn (ha.pe.run pins s σ H _ I t) fun v s1 ⟨x, H1, I1, r1, q1⟩ => thn (hi.pe.run pins s1 σ H1 _ I1 q1) fun u s2 ⟨y, H2, I2, r2, R, F0, L, M, w, uw, rel, rw1, rw2, hc, o⟩ => ?_)
    obtain ⟨a', dx, fl, rfl, ha'⟩ := isCls_ok rel rw1 hc
    obtain rfl : v = Value.ref a' := r1
    obtain ⟨mA, J, _⟩ := ins_get I2.hok ha'
    obtain ⟨od, J, _⟩ := J.look
    obtain ⟨m, hF⟩ := I2.fr
    exact PySem.W.sub_K hF I2.ok.mod.kin J q.at_ q.fi q.fn (call_at (A := X.A.in1) rfl F hr.in1 hz tk hb (vs := [.ref a', y]) I2 (.cons rfl (.cons r2 .nil)) (by simp [h2]) rel (.cons rw1 (.cons rw2 .nil)) o) (hsl _ _)⟩
    fun _ _ _ t => tOwn2_of wf wh t, bel_own2 fb (wf.bel ha.bel) (wh.bel hi.bel)⟩

/-! ### own lengths: len(o) -/
def lenOut (r : Res) : Option Res := match r with
  | .d (.int i) => if 0 ≤ i ∧ i < 2 ^ 63 then some (.d (.int i)) else none
  | _ => none
def eOwnLen (fs : Fn) (c : Nat) (hf : Ev W) : Ev Res := hf.bind fun w => fun st => if isCls st.M c w then (eCallF fs [w] |>.bind fun r => Ev.lift (lenOut r)) st else none
theorem bel_ownLen (fb : FnB fs) (bf : Bel hf) : Bel (eOwnLen fs c hf) := bf.bind fun w => fun st o st' hb e => by
  split at e
  · exact ((bel_callF fb [w]).bind fun r => .same fun st o st' e => by
      unfold Ev.lift at e; split at e <;> cases e; rfl) st o st' hb e
  · cases e
theorem se_ownLen {p : Pos} (q : OwnM X.K (G.at_ c) "__len__" fa) (F : FnZ z X.prog X.w X.K X.mg X.base (L2.CX X.prog X.w) k fa fd ps (spF X.K G.at_ ps.length fs)) (fb : FnB fs) (h2 : ps.length = 1) (hr : Room (k + 1) X.A) (hz : z = true → X.A.guards = some []) (tk : Takes X Wx) (hb : Binds X.K fd ps [])
    (wf : AsW f hf) (ha : SE X G Wx a f) (hg : Gl X "len") (hm : X.mg "len" = none) (he : starEach [a] X.env = (false, eval a X.env) :: starEach [] X.env := by rfl) (hpl : (backTo pos (starEach [] X.env)).any (·.1) = false := by rfl) :
    SE X G Wx (.Call (.Name "len" p) [a] [] pos) (eOwnLen fs c hf) :=
  ⟨⟨fun pins s σ H Q I ⟨R0, F0, L0, st, ok, o⟩ => by
    refine wpAny_Call_Name_kw (ld_blt I hg hm (by first | rfl | kernel_rfl) ?_)
    refine PyProof.Rows.callWith_builtin1 (thn ((pa_cons ha.pe pa_nil he).run pos pins s σ H (fun vs H1 => ∃ x R F L M w, vs = [x] ∧ Rel X.K G.at_ R F L M H1 ∧ RepW X.K G.at_ F L w x ∧ isCls M c w = true ∧ OutF X.K G.at_ R F L (fun v H' => ∃ i, v = .int i ∧ 0 ≤ i ∧ i < 2 ^ 63 ∧ Q (.int i) H') (WE Wx σ) (fs [w] M)) I ?_)
      fun us s1 ⟨vs, H1, I1, r1, x, R, F1, L, M, w, ev, rel, rw1, hc, o1⟩ => ?_) he hpl
    · refine tE_of ok (wf.out (OutP.bind (f := hf) o fun w st1 F1 L1 H1 x1 ok1 o1 v rv => ?_))
      split at o1
      · rename_i hc
        refine ⟨v, R0, F1, L1, st1.M, w, rfl, ok1.rel, rv, hc, ?_⟩
        have o3 : OutP X.K G Wx R0 F1 L1 σ (fun r _ _ _ H3 => ∃ i, r = .d (.int i) ∧ 0 ≤ i ∧ i < 2 ^ 63 ∧ Q (.int i) H3) (eCallF fs [w] st1) := OutP.bind (f := eCallF fs [w]) o1 fun r st3 F3 L3 H3 x3 ok3 o3 => by
          obtain ⟨r', er, o4⟩ := OutP.lift o3
          unfold lenOut at er
          split at er
          · split at er
            · rename_i hh
              cases er; exact ⟨_, rfl, hh.1, hh.2, o4 F3 L3 H3 (.refl _ _) ok3 _ (.int _)⟩
            · cases er
          · cases er
        exact call_out (Q := fun v H' => ∃ i, v = .int i ∧ 0 ≤ i ∧ i < 2 ^ 63 ∧ Q (.int i) H') ok1 o3 fun r st3 F3 L3 H3 v x3 ok3 ⟨i, ei, p⟩ rr => by
          subst ei; cases rr; exact ⟨i, rfl, p⟩
      · exact o1.elim
    · subst ev
      cases r1 with
      | cons r1 rn =>
        cases rn
        obtain ⟨a', dx, fl, rfl, ha'⟩ := isCls_ok rel rw1 hc
        cases r1
        obtain ⟨mA, J, _⟩ := ins_get I1.hok ha'
        obtain ⟨od, J, _⟩ := J.look
        obtain ⟨m, hF⟩ := I1.fr
        refine PySem.W.len_K hF I1.ok.mod.kin J q.at_ q.fn (wpAny_mono (call_at (A := X.A.in1) rfl F hr.in1 hz tk hb (vs := [.ref a']) I1 (.cons rfl .nil) (by simp [h2]) rel (.cons rw1 .nil) o1) (fun v' s' ⟨z', H', I', rz, i, ez, h0, h1, qz⟩ => ?_) fun _ _ y => y)
        subst ez
        obtain ⟨t, rfl⟩ := rz
        exact ⟨⟨h0, h1⟩, .int i, H', I'.tok _, ⟨_, rfl⟩, qz⟩⟩, bel_ownLen fb (wf.bel ha.bel)⟩
end
end Pm

set_option maxHeartbeats 2000000
/-! Q20: two names at once -/
namespace Pm
open PySem PyProof.Rows L2
section
variable {X : Cx} {G : Cl} {Wx : WX} {pos : Pos}
def fPar (i j : Nat) (fa : Ev (List W)) : Ev Fl := fa.bind fun ws => fun st => match ws with
  | [v, w] => some (.ok .nx, ⟨(st.sl.set i (.w v)).set j (.w w), st.M, st.b⟩)
  | _ => none
theorem ss_par {i j : Nat} {x y : Str} {a b : Expr} {fa : Ev (List W)} {px py pt : Pos} {kt k2 : Nat} {pt2 : Pos} (hN : X.N.Nodup) (ha : SA X G Wx [a, b] fa) (hi : X.N[i]? = some x := by rfl) (hj : X.N[j]? = some y := by rfl) (hij : i ≠ j := by decide)
    (hx : X.env.scope.names.lookup x = some .local := by rfl) (hy : X.env.scope.names.lookup y = some .local := by rfl)
    (hw : swappedStores [.Tuple [.Name x px, .Name y py] kt pt] (.Tuple [a, b] k2 pt2) X.env = pure (some [x, y]) := by rfl)
    (hs : swapsWithSole [.Tuple [.Name x px, .Name y py] kt pt] (.Tuple [a, b] k2 pt2) pos.line X.env = pure false := by rfl) (hc : X.calm = true := by rfl) :
    SS X G Wx (.Assign [.Tuple [.Name x px, .Name y py] kt pt] (.Tuple [a, b] k2 pt2) pos) (fPar i j fa) :=
  ⟨PS_imp (ps_par hc hN hi hj hij hx hy ha.pa hw hs) fun D σ H ⟨R, F, L, st, ok, o⟩ => by
    refine ⟨R, F, L, st, ok, OutS.bind (f := fa) o fun ws st1 F1 L1 H1 x1 ok1 o1 vs rvs => ?_⟩
    split at o1
    · cases rvs with
      | cons r1 rn => cases rn with
        | cons r2 rn =>
          cases rn
          exact ⟨_, _, rfl, o1 _ F1 L1 H1 (.refl _ _) ((ok1.setSl i r1).setSl j r2)⟩
    · exact o1.elim, ha.bel.bind fun ws => fun st o st' _ e => by
    split at e
    · cases e; exact .refl _
    · cases e⟩
end
end Pm

set_option maxHeartbeats 2000000
/-! Q21: a law's defs, put together -/
namespace Pm
open PySem PyProof.Rows L2 He

noncomputable def fdOf (K : PySem.W.Frag) (p : Str × Option Str) : FuncData := match K.lookup (fAd K p) with
  | some ⟨_, _, .func fd, _⟩ => fd
  | _ => PySem.W.fnOf "" "" ⟨[], [], none, [], [], none, []⟩ [] ⟨.function, [], false, false, []⟩ .none .none .none .none none .none .none
theorem fdOf_eq {K : PySem.W.Frag} {x q : Str} {pa : Arguments} {b : List Stmt} {sc : Scope} {dvs : List V} {kws : List (Str × V)} {p : Str × Option Str} {fd : FuncData} (F : FunD K x q pa b sc dvs kws (fAd K p) fd) : fdOf K p = fd := by
  obtain ⟨oc, od, dV, kV, doc, pm, an, cdv, ct, osl, _, lk, _⟩ := F.ex
  unfold fdOf
  rw [lk]
abbrev Dd (K : PySem.W.Frag) (d : DefD) : Prop := FunD K d.name d.qual d.params d.body d.scope (d.dvs K) (d.kws K) (fAd K d.at_) (fdOf K d.at_)
theorem dd_of {K : PySem.W.Frag} {fa : List Fa} {fn : List DefD} (c : SaysD fa fn K) (i : Nat) {d : DefD} (h : fn[i]? = some d := by rfl) : Dd K d := by
  obtain ⟨fd, F⟩ := c.def_ i h
  unfold Dd
  rw [fdOf_eq F]
  exact F
/-- a def and what it does -/
structure FnX (z : Bool) (P : Program) (w : World) (K : PySem.W.Frag) (mg : Str → Option Value) (base : Heap) (g : Nat → Addr) (k : Nat) (f : Addr) (fd : FuncData) (ps : List Str) (fs : Fn) : Prop where
  ok : FnZ z P w K mg base (L2.CX P w) k f fd ps (spF K g ps.length fs)
  fb : FnB fs
section
variable {z : Bool} {P : Program} {w : World} {K : PySem.W.Frag} {mg : Str → Option Value} {base : Heap} {x qual : Str} {st : Stmt} {f : Addr} {fd : FuncData} {N ps : List Str} {k : Nat} {g : Nat → Addr} {fb : Ev Fl} {dvs : List V} {kws : List (Str × V)}
/-- a body's derivation, wherever it is run -/
def Hb (z : Bool) (P : Program) (w : World) (K : PySem.W.Frag) (mg : Str → Option Value) (base : Heap) (qual : Str) (st : Stmt) (f : Addr) (N : List Str) (k : Nat) (g : Nat → Addr) (fb : Ev Fl) : Prop :=
  ∀ (cdv : Value) (A : Around) (outer : List Env) (s : Shared) (H : Hp) (E : XK) (Wx : WX), Room k (A.deeper (envOfC qual (defScope st) s.heap.objs.size f cdv)) → (z = true → (A.deeper (envOfC qual (defScope st) s.heap.objs.size f cdv)).guards = some []) →
    Takes (cxOf (L2.CX P w) P w K mg base N qual (defScope st) f cdv A outer s H E) Wx → PassesOwn (model P w) (A.deeper (envOfC qual (defScope st) s.heap.objs.size f cdv)) (envOfC qual (defScope st) s.heap.objs.size f cdv) (cxOf (L2.CX P w) P w K mg base N qual (defScope st) f cdv A outer s H E).xe →
    SB (cxOf (L2.CX P w) P w K mg base N qual (defScope st) f cdv A outer s H E) ⟨g, 0, 0⟩ Wx (defBody st) fb
theorem fnx_of (F : FunD K x qual (defArgs st) (defBody st) (defScope st) dvs kws f fd) (Sc : FnScope N ps (defScope st)) (h : Hb z P w K mg base qual st f N k g fb) (hk : k ≤ 40 := by decide) : FnX z P w K mg base g (k + 1) f fd ps (fnOf N.length fb) := by
  refine ⟨fn_ok F Sc h, ?_⟩
  have rm : Room k (callerA.deeper (envOfC qual (defScope st) ({} : Shared).heap.objs.size f .none)) := Room.mono (Room.deeper (k := 40) ⟨rfl, by decide, by decide⟩ _) hk
  exact fnB_of (h .none callerA [] ({} : Shared) (fun _ => none) (fun _ _ _ => False) (fun cls d _ H' => False) rm (fun _ => by rfl) (takes_of rfl rfl rfl rfl) (passes_of rfl)).bel
end
end Pm

set_option maxHeartbeats 2000000
/-! Q22: facts by Bools, small rules, the end -/
namespace Pm
open PySem PyProof.Rows L2 He

theorem u64 {k : Nat} {A : Around} (hr : Room k A) : A.units + 64 < cLine := by have := hr.un; omega
theorem u65 {k : Nat} {A : Around} (hr : Room k A) : A.units + 65 < cLine := by have := hr.un; omega
theorem u140 {k : Nat} {A : Around} (hr : Room k A) : A.units + 140 < cLine := by have := hr.un; omega
theorem u160 {k : Nat} {A : Around} (hr : Room k A) : A.units + 160 < cLine := by have := hr.un; omega
theorem takes_WF {X : Cx} : Takes X WF := fun u s' ⟨_, _, _, _, _, _, _, _, _, _, _, _, _, _, _, _, q⟩ => q.elim
/-! ### an operation that looks deep, on flat data -/
def flatD : D → Bool
  | .obj _ _ => false
  | _ => true
def resB (f : D → D → Option Bool) (a b : D) : Option Res := if flatD a && flatD b then (f a b).map fun k => .d (.bl k) else none
theorem Reps.deep {K : PySem.W.Frag} {g : Nat → Addr} {F H : Hp} : ∀ {ds : List D} {vs : List V}, Reps K g F ds vs → RepEs K g F H ds vs
  | _, _, .nil => .nil
  | _, _, .cons a t => .cons (.rep a) (Reps.deep t)
theorem RepV.deep {K : PySem.W.Frag} {g : Nat → Addr} {F H : Hp} {d : D} {v : V} (r : RepV K g F H d v) (h : flatD d = true) : RepE K g F H d v := by
  cases r with
  | rep r => exact .rep r
  | lst e rs =>
    exact .lst e rs.deep
  | obj _ _ _ => cases h
section
variable {X : Cx} {G : Cl} {Wx : WX} {pos : Pos}
theorem or_flat {op : Value → Value → Sem Value} {f : D → D → Option Bool} (h : OpR X op (rE X.K G f)) : OpR X op (rD X.K G (resB f)) := by
  intro pins s σ H x y v u Q I rx ry ⟨R, F, L, M, a, b, r, rel, ra, rb, e, q⟩
  unfold resB at e
  split at e
  · rename_i hh
    simp only [Bool.and_eq_true] at hh
    obtain ⟨k, ek, rfl⟩ := Option.map_eq_some_iff.mp e
    exact h pins s σ H x y v u Q I rx ry ⟨R, F, L, M, a, b, k, rel, ra.deep hh.1, rb.deep hh.2, ek, q _ F H (.refl _) rel (.bl _)⟩
  · cases e
/-- -e -/
def negD : D → Ev Res
  | .int i => fun st => some (.ok (.d (.int (-i))), st)
  | _ => Ev.fail
def eNeg (f : Ev Res) : Ev Res := (evD f).bind negD
theorem se_neg {a : Expr} {f : Ev Res} (ha : SE X G Wx a f) : SE X G Wx (.UnaryOp .USub a pos) (eNeg f) :=
  ⟨PE_imp (pe_un un_neg ha.pe) fun σ H Q ⟨R, F, L, st, ok, o⟩ => tE_D ok (OutP.bind (f := evD f) o fun d st1 F1 L1 H1 x1 ok1 o1 v rv => by
    cases d with
    | int i => cases rv; exact ⟨i, rfl, o1 F1 L1 H1 (.refl _ _) ok1 _ (.int _)⟩
    | _ => exact o1.elim), (bel_evD ha.bel).bind fun d => by cases d <;> first | exact .pure | exact .fail'⟩
end
/-! ### facts of the classes -/
section
variable {K : PySem.W.Frag}
def ownB (K : PySem.W.Frag) (C : Addr) (m : Str) (f : Addr) : Bool := eqO (PySem.W.findIn K (.ref C) m) (some (some (.ref f))) && (PySem.W.isFn K (.ref f) && PySem.W.fnIn K f)
theorem ownB_ok {C f : Addr} {m : Str} (h : ownB K C m f = true) : OwnM K C m f := by
  obtain ⟨h1, h⟩ := ba h
  obtain ⟨h2, h3⟩ := ba h
  exact ⟨eqO_ok h1, h2, h3⟩
def insB (K : PySem.W.Frag) (C : Addr) : Bool := PySem.W.plainGet K C Str.empty && (PySem.W.hasDictIn K C && (PySem.W.plainOver K C && (eqO (PySem.W.findIn K (.ref C) "__setattr__") (some (some (.builtin "object.__setattr__"))) &&
  (eqO (PySem.W.findIn K (.ref C) "__class__") (some (some (.builtin "object.__class__"))) && (eqO (PySem.W.specialIn K (.builtin "object.__class__") "__get__") (some (some (.builtin "getset_descriptor.__get__"))) &&
  (decide (PySem.W.takesIn K (.builtin "object.__class__") = some true) && decide (PySem.W.mroIn K C (.type "object") = some true)))))))
theorem insB_ok {C : Addr} (h : insB K C = true) : InsT K C := by
  obtain ⟨h1, h⟩ := ba h
  obtain ⟨h2, h⟩ := ba h
  obtain ⟨h3, h⟩ := ba h
  obtain ⟨h4, h⟩ := ba h
  obtain ⟨h5, h⟩ := ba h
  obtain ⟨h6, h⟩ := ba h
  obtain ⟨h7, h8⟩ := ba h
  exact ⟨⟨h1, h2, h3, eqO_ok h4⟩, eqO_ok h5, eqO_ok h6, of_decide_eq_true h7, of_decide_eq_true h8⟩
def tgIns (K : PySem.W.Frag) (g : Nat → Addr) : Tg → Bool
  | .own c => insB K (g c)
  | .ty _ => true
theorem tgIns_ok {g : Nat → Addr} {t : Tg} {c : Nat} (h : tgIns K g t = true) (e : t = .own c) : InsT K (g c) := by
  subst e; exact insB_ok h
def eqB (K : PySem.W.Frag) (g : Nat → Addr) (c : Nat) (f : Addr) (ts : List Tg) : Bool := eqO (PySem.W.findIn K (.ref (g c)) "__eq__") (some (some (.ref f))) && (eqO (PySem.W.findIn K (.ref (g c)) "__ne__") (some (some (.builtin "object.__ne__"))) &&
  (PySem.W.isFn K (.ref f) && (decide (PySem.W.mroIn K (g c) (.type "object") = some true) && ((ts.all fun t => PySem.W.notFirst K (g c) (tgV g t)) && ts.all fun t => tgIns K g t))))
theorem eqB_ok {g : Nat → Addr} {c : Nat} {f : Addr} {ts : List Tg} (h : eqB K g c f ts = true) : EqOk K g c f ts := by
  obtain ⟨h1, h⟩ := ba h
  obtain ⟨h2, h⟩ := ba h
  obtain ⟨h3, h⟩ := ba h
  obtain ⟨h4, h⟩ := ba h
  obtain ⟨h5, h6⟩ := ba h
  exact ⟨eqO_ok h1, eqO_ok h2, h3, of_decide_eq_true h4, fun t ht => List.all_eq_true.mp h5 t ht, fun t ht c e => tgIns_ok (List.all_eq_true.mp h6 t ht) e⟩
def isiB (K : PySem.W.Frag) (g : Nat → Addr) (tab : List (Tg × Tg × Bool)) : Bool := (tab.all fun e => decide (PySem.W.kitOne K (tgV g e.1) (tgV g e.2.1) = some e.2.2)) && tab.all fun e => tgIns K g e.1
theorem isiB_ok {g : Nat → Addr} {tab : List (Tg × Tg × Bool)} (h : isiB K g tab = true) : IsiOk K g tab := by
  obtain ⟨h1, h2⟩ := ba h
  exact ⟨fun e he => of_decide_eq_true (List.all_eq_true.mp h1 e he), fun e he c q => tgIns_ok (List.all_eq_true.mp h2 e he) q⟩
end
/-! ### arguments by keyword, all of them given -/
def gApp {α : Type} (us ws : List α) : List α := us ++ ws
@[simp] theorem len_gApp {α : Type} (us ws : List α) : (gApp us ws).length = us.length + ws.length := List.length_append
theorem bd_kw {K : PySem.W.Frag} {g : Nat → Addr} {x qual : Str} {params : Arguments} {body : List Stmt} {scope : Scope} {kws : List (Str × V)} {f : Addr} {fd : FuncData} {ps ks : List Str} {n : Nat} (F : FunD K x qual params body scope [] kws f fd)
    (h : ∀ (kV doc pm : Value) (an : Option Addr) (cdv ct : Value) (us ws : List Value), us.length = n → ws.length = ks.length → bindArgs (PySem.W.fnOf x qual params body scope .none kV doc pm an cdv ct) ⟨us, ks.zip ws⟩ = pure (ps.zip (us ++ ws))) : Bd K g fd ps n ks gApp := by
  obtain ⟨oc, od, dV, kV, doc, pm, an, cdv, ct, osl, rfl, _, _, hd, _⟩ := F.ex
  obtain rfl : dV = .none := by
    rcases hd with ⟨_, h⟩ | ⟨h, _⟩
    · exact h
    · exact absurd rfl h
  exact ⟨gApp, gApp, ⟨fun s us ws _ h1 h2 => .of_eq (h _ _ _ _ _ _ us ws h1 h2), fun r1 r2 => r1.append r2⟩, fun _ _ _ _ _ _ r1 r2 => r1.append r2⟩
/-! ### a law's end -/
theorem law_sp {K : PySem.W.Frag} {g : Nat → Addr} {fs : Fn} {H : Hp} {a : Addr} {ns : List Int} (hS : SqL K H a (ns.map V.int)) {M : List (Option Cell)} (h : fs [.d (.scr (ns.map D.int))] [] = some (.ok (.d (.bl true)), M)) :
    spF K g 1 fs [.ref a] H (fun v _ => v = .bl true) fun _ _ _ => False := by
  have ri : ∀ l : List Int, Reps K g H (l.map D.int) (l.map V.int) := fun l => by
    induction l with
    | nil => exact .nil
    | cons i r ih => exact .cons (.int i) ih
  refine ⟨rfl, fun _ => none, H, [], [], [.d (.scr (ns.map D.int))], ⟨.refl _, (fun a o e => by cases e), (fun a o e => by cases e), rfl, (fun i c e => by simp at e), fun i j c d a e => by simp at e⟩, .cons (.scr hS (ri ns)) .nil, ?_⟩
  rw [h]
  intro v F' L' H' _ _ rr
  cases rr
  rfl
theorem walkF {l : PySem.W.OpenLaw} {n k : Nat} {q : Program} {loose : List Str} {XP : (Str → Option Value) → Heap → Prop} {YP : World → Heap → Prop} {d : DefRec} {fs : Fn} (hn : l.most = some n) (hn2 : n ≤ sizeLine) (hdf : d.params.defaults = []) (hr : Room k callerA)
    (F : ∀ (w : World) (mg : Str → Option Value) (fa : Addr) (h : Heap), YP w h → h.Ns mainGlobals mg → mg d.name = some (.ref fa) → ∃ (K : PySem.W.Frag) (g : Nat → Addr) (fd : FuncData), K.In h ∧ (∀ (s : Shared) (u : Value), BindsTo s fd ⟨[u], []⟩ [("script", u)]) ∧
      ∀ base : Heap, K.In base → base.Ns mainGlobals mg → FnX false l.prog w K mg base g k fa fd ["script"] fs)
    (hf : ∀ ns : List Int, ns.length ≤ n → ∃ M, fs [.d (.scr (ns.map D.int))] [] = some (.ok (.d (.bl true)), M)) : PySem.W.WalkO q loose XP YP l.row.toRowW d [] (fun f vs => PySem.call f vs) := by
  refine Att.attach_call hn hdf fun w s₀ s₁ mg mb fa o pm cd doc a vs ns G Y ho hd hcd hmg hobj hints hlen hg => ?_
  obtain ⟨K, g, fd, KX, hb, hF⟩ := F w mg fa _ Y G.T.g hmg
  obtain ⟨M, e⟩ := hf ns hlen
  exact law_call (CX := L2.CX l.prog w) KX G.T.g G.T.b G.T.builtins G.T.nolimit hg hobj hints (Nat.le_trans hlen hn2) hr (fun base h1 h2 => (hF base h1 h2).ok.fn) hb (fun H _ hS => law_sp hS e) fun H e s' ⟨_, _, _, _, _, _, _, _, _, _, _, _, z⟩ => z
end Pm

set_option maxHeartbeats 2000000
/-! Q23: plain law: what a shallow term gives, without errors -/
namespace Pm
open PySem

/-- it gives an answer, and the answer and the state are so -/
def Wp {α : Type} (o : Option (Out α × S)) (Q : α → S → Prop) : Prop := match o with
  | some (.ok a, st) => Q a st
  | _ => False
section
variable {α β : Type} {Q : α → S → Prop} {R : β → S → Prop} {st : S}
theorem Wp.mono {o : Option (Out α × S)} {Q Q' : α → S → Prop} (h : Wp o Q) (k : ∀ a s, Q a s → Q' a s) : Wp o Q' := by
  unfold Wp at h ⊢
  split at h
  · exact k _ _ h
  · exact h.elim
theorem Wp.get {o : Option (Out α × S)} (h : Wp o Q) : ∃ a s, o = some (.ok a, s) ∧ Q a s := by
  unfold Wp at h
  split at h
  · exact ⟨_, _, rfl, h⟩
  · exact h.elim
@[simp] theorem wp_some {a : α} : Wp (some (.ok a, st)) Q ↔ Q a st := Iff.rfl
@[simp] theorem wp_none : Wp (none : Option (Out α × S)) Q ↔ False := Iff.rfl
@[simp] theorem wp_bind {f : Ev β} {k : β → Ev α} : Wp (Ev.bind f k st) Q ↔ Wp (f st) (fun b st' => Wp (k b st') Q) := by
  unfold Ev.bind
  cases e : f st with
  | none => exact Iff.rfl
  | some p =>
    obtain ⟨o, s⟩ := p
    cases o <;> exact Iff.rfl
@[simp] theorem wp_pure {a : α} : Wp (Ev.pure a st) Q ↔ Q a st := Iff.rfl
@[simp] theorem wp_fail : Wp ((Ev.fail : Ev α) st) Q ↔ False := Iff.rfl
@[simp] theorem wp_lift {o : Option α} : Wp (Ev.lift o st) Q ↔ ∃ a, o = some a ∧ Q a st := by
  unfold Ev.lift
  cases o <;> simp
theorem wp_ite {c : Prop} [Decidable c] {o o' : Option (Out α × S)} : Wp (if c then o else o') Q ↔ if c then Wp o Q else Wp o' Q := by split <;> exact Iff.rfl
@[simp] theorem wp_ite' {c : Prop} [Decidable c] {f h : Ev α} : Wp ((if c then f else h) st) Q ↔ if c then Wp (f st) Q else Wp (h st) Q := by split <;> exact Iff.rfl
end
/-- what a name gives -/
def slR : Option Sl → Option Res
  | some (.w (.d x)) => some (.d x)
  | some (.w (.loc j)) => some (.loc j)
  | some (.ex c fs) => some (.ex c fs)
  | _ => none
@[simp] theorem slR_w {w : W} : slR (some (.w w)) = some w.res := by cases w <;> rfl
@[simp] theorem slR_no : slR (some .no) = none := rfl
@[simp] theorem slR_ex {c : Nat} {fs : List (Str × D)} : slR (some (.ex c fs)) = some (.ex c fs) := rfl
@[simp] theorem wp_toW_res {w : W} {st : S} {Q : W → S → Prop} : Wp (toW w.res st) Q ↔ Q w st := by cases w <;> rfl
@[simp] theorem wp_toCell_res {w : W} {st : S} {Q : W → S → Prop} : Wp (toCell w.res st) Q ↔ Q w st := by cases w <;> rfl
section
variable {Q : Res → S → Prop} {QW : W → S → Prop} {QD : D → S → Prop} {QL : List W → S → Prop} {QB : Bool → S → Prop} {QF : Fl → S → Prop} {st : S} {sl : List Sl} {M : List (Option Cell)} {b : Nat} {f h : Ev Res}
@[simp] theorem wp_var {i : Nat} : Wp (eVar i ⟨sl, M, b⟩) Q ↔ ∃ r, slR sl[i]? = some r ∧ Q r ⟨sl, M, b⟩ := by
  unfold eVar slR
  dsimp only
  split <;> simp_all
@[simp] theorem wp_c {d : D} : Wp (eC d st) Q ↔ Q (.d d) st := Iff.rfl
@[simp] theorem wp_evW : Wp (evW f st) QW ↔ Wp (f st) fun r s => Wp (toW r s) QW := wp_bind
@[simp] theorem wp_evD : Wp (evD f st) QD ↔ Wp (f st) fun r s => Wp (toD r s) QD := wp_bind
@[simp] theorem wp_evN : Wp (evN f st) QW ↔ Wp (f st) fun r s => Wp (toCell r s) QW := wp_bind
@[simp] theorem wp_evC : Wp (evC f st) QW ↔ Wp (evD f st) fun d s => QW (.d d) s := wp_bind
@[simp] theorem wp_toW_d {x : D} : Wp (toW (.d x) st) QW ↔ QW (.d x) st := Iff.rfl
@[simp] theorem wp_toW_loc {i : Nat} : Wp (toW (.loc i) st) QW ↔ QW (.loc i) st := Iff.rfl
@[simp] theorem wp_toW_new {c : Cell} : Wp (toW (.new c) st) QW ↔ ∃ x, c.frz = some x ∧ QW (.d x) st := by
  simp only [toW]; cases c.frz <;> simp
@[simp] theorem wp_toD_d {x : D} : Wp (toD (.d x) st) QD ↔ QD x st := Iff.rfl
@[simp] theorem wp_toD_new {c : Cell} : Wp (toD (.new c) st) QD ↔ ∃ x, c.frz = some x ∧ QD x st := by
  simp only [toD]; cases c.frz <;> simp
@[simp] theorem wp_toD_loc {i : Nat} : Wp (toD (.loc i) st) QD ↔ ∃ q, close i st = some q ∧ QD q.1 q.2 := by
  simp only [toD]
  cases close i st with
  | none => simp
  | some p =>
    obtain ⟨x, s⟩ := p
    exact ⟨fun z => ⟨(x, s), rfl, z⟩, fun ⟨⟨x', s'⟩, e, z⟩ => by cases e; exact z⟩
@[simp] theorem wp_toCell_d {x : D} : Wp (toCell (.d x) st) QW ↔ QW (.d x) st := Iff.rfl
@[simp] theorem wp_toCell_loc {i : Nat} : Wp (toCell (.loc i) st) QW ↔ QW (.loc i) st := Iff.rfl
@[simp] theorem wp_toCell_new {c : Cell} : Wp (toCell (.new c) ⟨sl, M, b⟩) QW ↔ QW (.loc M.length) ⟨sl, M ++ [some c], b⟩ := Iff.rfl
@[simp] theorem wp_eaNil : Wp (eaNil st) QL ↔ QL [] st := Iff.rfl
@[simp] theorem wp_eaCons {g : Ev W} {r : Ev (List W)} : Wp (eaCons g r st) QL ↔ Wp (g st) fun w s => Wp (r s) fun ws s' => QL (w :: ws) s' := by
  unfold eaCons; simp
@[simp] theorem wp_eaStar {g : Ev W} {r : Ev (List W)} : Wp (eaStar g r st) QL ↔ Wp (g st) fun w s => ∃ xs, seqW s.M w = some xs ∧ Wp (r s) fun ws s' => QL (xs ++ ws) s' := by
  unfold eaStar
  rw [wp_bind]
  constructor <;> intro hh <;> refine hh.mono fun w s z => ?_
  · cases e : seqW s.M w with
    | none => rw [e] at z; exact z.elim
    | some xs => rw [e] at z; exact ⟨xs, rfl, by simpa using z⟩
  · obtain ⟨xs, e, z⟩ := z
    rw [e]; simpa using z
@[simp] theorem wp_tup {fa : Ev (List W)} : Wp (eTup fa st) Q ↔ Wp (fa st) fun ws s => ∃ ds, dats ws = some ds ∧ ds.length ≤ sizeLine ∧ Q (.d (.tup ds)) s := by
  unfold eTup
  rw [wp_bind]
  constructor <;> intro hh <;> refine hh.mono fun w s z => ?_
  · cases e : dats w with
    | none => rw [e] at z; exact z.elim
    | some xs =>
      rw [e] at z
      dsimp only at z
      split at z
      · exact ⟨xs, rfl, by assumption, z⟩
      · exact z.elim
  · obtain ⟨xs, e, l, z⟩ := z
    rw [e]; dsimp only; rw [if_pos l]; exact z
@[simp] theorem wp_lst {fa : Ev (List W)} : Wp (eLst fa st) Q ↔ Wp (fa st) fun ws s => ws.length ≤ sizeLine ∧ Q (.new (.lst ws)) s := by
  unfold eLst
  rw [wp_bind]
  constructor <;> intro hh <;> refine hh.mono fun w s z => ?_
  · split at z
    · exact ⟨by assumption, z⟩
    · exact z.elim
  · rw [if_pos z.1]; exact z.2
@[simp] theorem wp_op {o : D → D → Option Res} : Wp (eOp o f h st) Q ↔ Wp (evW f st) fun w s => Wp (evW h s) fun u s' => ∃ x y r, view s'.M w = some x ∧ view s'.M u = some y ∧ o x y = some r ∧ Q r s' := by
  unfold eOp
  rw [wp_bind]
  constructor <;> intro hh <;> refine hh.mono fun w s z => ?_
  · rw [wp_bind] at z
    refine z.mono fun u s' z => ?_
    cases e1 : view s'.M w with
    | none => rw [e1] at z; exact z.elim
    | some x =>
      cases e2 : view s'.M u with
      | none => rw [e1, e2] at z; exact z.elim
      | some y =>
        rw [e1, e2] at z
        obtain ⟨r, e3, z⟩ := wp_lift.mp z
        exact ⟨x, y, r, rfl, rfl, e3, z⟩
  · rw [wp_bind]
    refine z.mono fun u s' z => ?_
    obtain ⟨x, y, r, e1, e2, e3, z⟩ := z
    rw [e1, e2]
    exact wp_lift.mpr ⟨r, e3, z⟩
@[simp] theorem wp_opT {o : D → D → Option Bool} : Wp (eOpT o f h st) QB ↔ Wp (evW f st) fun w s => Wp (evW h s) fun u s' => ∃ x y r, deepV s'.M 3 w = some x ∧ deepV s'.M 3 u = some y ∧ o x y = some r ∧ QB r s' := by
  unfold eOpT
  rw [wp_bind]
  constructor <;> intro hh <;> refine hh.mono fun w s z => ?_
  · rw [wp_bind] at z
    refine z.mono fun u s' z => ?_
    cases e1 : deepV s'.M 3 w with
    | none => rw [e1] at z; exact z.elim
    | some x =>
      cases e2 : deepV s'.M 3 u with
      | none => rw [e1, e2] at z; exact z.elim
      | some y =>
        rw [e1, e2] at z
        dsimp only at z
        cases e3 : o x y with
        | none => rw [e3] at z; exact z.elim
        | some r => rw [e3] at z; exact ⟨x, y, r, rfl, rfl, e3, z⟩
  · rw [wp_bind]
    refine z.mono fun u s' z => ?_
    obtain ⟨x, y, r, e1, e2, e3, z⟩ := z
    rw [e1, e2]
    dsimp only
    rw [e3]
    exact z
@[simp] theorem wp_opE {o : D → D → Option Bool} : Wp (eOpE o f h st) Q ↔ Wp (evW f st) fun w s => Wp (evW h s) fun u s' => ∃ x y r, deepV s'.M 3 w = some x ∧ deepV s'.M 3 u = some y ∧ o x y = some r ∧ Q (.d (.bl r)) s' := by
  unfold eOpE
  rw [wp_bind]
  constructor <;> intro hh <;> refine hh.mono fun w s z => ?_
  · rw [wp_bind] at z
    refine z.mono fun u s' z => ?_
    cases e1 : deepV s'.M 3 w with
    | none => rw [e1] at z; exact z.elim
    | some x =>
      cases e2 : deepV s'.M 3 u with
      | none => rw [e1, e2] at z; exact z.elim
      | some y =>
        rw [e1, e2] at z
        dsimp only at z
        cases e3 : o x y with
        | none => rw [e3] at z; exact z.elim
        | some r => rw [e3] at z; exact ⟨x, y, r, rfl, rfl, e3, z⟩
  · rw [wp_bind]
    refine z.mono fun u s' z => ?_
    obtain ⟨x, y, r, e1, e2, e3, z⟩ := z
    rw [e1, e2]
    dsimp only
    rw [e3]
    exact z
/-! tests -/
variable {t u : Ev Bool}
@[simp] theorem wp_andT : Wp (eAndT t u st) QB ↔ Wp (t st) fun c s => if c then Wp (u s) QB else QB false s := by
  unfold eAndT; rw [wp_bind]
  constructor <;> intro hh <;> refine hh.mono fun c s z => ?_ <;> cases c <;> simpa using z
@[simp] theorem wp_orT : Wp (eOrT t u st) QB ↔ Wp (t st) fun c s => if c then QB true s else Wp (u s) QB := by
  unfold eOrT; rw [wp_bind]
  constructor <;> intro hh <;> refine hh.mono fun c s z => ?_ <;> cases c <;> simpa using z
@[simp] theorem wp_notT : Wp (eNotT t st) QB ↔ Wp (t st) fun c s => QB (!c) s := by
  unfold eNotT; rw [wp_bind]; exact Iff.rfl
@[simp] theorem wp_if : Wp (eIf t f h st) Q ↔ Wp (t st) fun c s => if c then Wp (f s) Q else Wp (h s) Q := by
  unfold eIf; rw [wp_bind]
  constructor <;> intro hh <;> refine hh.mono fun c s z => ?_ <;> cases c <;> simpa using z
@[simp] theorem wp_tru : Wp (eTru f st) QB ↔ Wp (evW f st) fun w s => ∃ x k, view s.M w = some x ∧ truD x = some k ∧ QB k s := by
  unfold eTru; rw [wp_bind]
  constructor <;> intro hh <;> refine hh.mono fun w s z => ?_
  · cases e1 : view s.M w with
    | none => rw [e1] at z; exact z.elim
    | some x =>
      rw [e1] at z
      obtain ⟨k, e, z⟩ := wp_lift.mp z
      exact ⟨x, k, rfl, e, z⟩
  · obtain ⟨x, k, e1, e, z⟩ := z
    rw [e1]; exact wp_lift.mpr ⟨k, e, z⟩
@[simp] theorem wp_notV : Wp (eNotV f st) Q ↔ Wp (eTru f st) fun k s => Q (.d (.bl (!k))) s := by
  unfold eNotV; rw [wp_bind]; exact Iff.rfl
@[simp] theorem wp_andV : Wp (eAndV f h st) Q ↔ Wp (evW f st) fun w s => ∃ x k, view s.M w = some x ∧ truD x = some k ∧ if k then Wp (h s) Q else Q w.res s := by
  unfold eAndV; rw [wp_bind]
  constructor <;> intro hh <;> refine hh.mono fun w s z => ?_
  · cases e1 : view s.M w with
    | none => rw [e1] at z; exact z.elim
    | some x =>
      rw [e1] at z
      dsimp only at z
      cases e : truD x with
      | none => rw [e] at z; exact z.elim
      | some k => rw [e] at z; refine ⟨x, k, rfl, e, ?_⟩; cases k <;> simpa using z
  · obtain ⟨x, k, e1, e, z⟩ := z
    rw [e1]; dsimp only; rw [e]; cases k <;> simpa using z
@[simp] theorem wp_orV : Wp (eOrV f h st) Q ↔ Wp (evW f st) fun w s => ∃ x k, view s.M w = some x ∧ truD x = some k ∧ if k then Q w.res s else Wp (h s) Q := by
  unfold eOrV; rw [wp_bind]
  constructor <;> intro hh <;> refine hh.mono fun w s z => ?_
  · cases e1 : view s.M w with
    | none => rw [e1] at z; exact z.elim
    | some x =>
      rw [e1] at z
      dsimp only at z
      cases e : truD x with
      | none => rw [e] at z; exact z.elim
      | some k => rw [e] at z; refine ⟨x, k, rfl, e, ?_⟩; cases k <;> simpa using z
  · obtain ⟨x, k, e1, e, z⟩ := z
    rw [e1]; dsimp only; rw [e]; cases k <;> simpa using z
@[simp] theorem wp_B : Wp (eB f st) QB ↔ Wp (f st) fun r s => ∃ k, r = .d (.bl k) ∧ QB k s := by
  unfold eB; rw [wp_bind]
  constructor <;> intro hh <;> refine hh.mono fun r s z => ?_
  · unfold asB at z
    split at z
    · exact ⟨_, rfl, z⟩
    · exact z.elim
  · obtain ⟨k, rfl, z⟩ := z; exact z
@[simp] theorem wp_neg : Wp (eNeg f st) Q ↔ Wp (evD f st) fun x s => ∃ i, x = .int i ∧ Q (.d (.int (-i))) s := by
  unfold eNeg; rw [wp_bind]
  constructor <;> intro hh <;> refine hh.mono fun r s z => ?_
  · cases r <;> first | exact ⟨_, rfl, z⟩ | exact z.elim
  · obtain ⟨k, rfl, z⟩ := z; exact z
@[simp] theorem wp_chain {o1 o2 : D → D → Option Res} {k : Ev Res} : Wp (eChain o1 o2 f h k st) Q ↔ Wp (evW f st) fun w s => Wp (evW h s) fun u s' => ∃ x y c, view s'.M w = some x ∧ view s'.M u = some y ∧ o1 x y = some (.d (.bl c)) ∧
    if c then Wp (evW k s') fun v s2 => ∃ y z r, view s2.M u = some y ∧ view s2.M v = some z ∧ o2 y z = some r ∧ Q r s2 else Q (.d (.bl false)) s' := by
  unfold eChain; rw [wp_bind]
  constructor <;> intro hh <;> refine hh.mono fun w s z => ?_
  · rw [wp_bind] at z
    refine z.mono fun u s' z => ?_
    cases e1 : view s'.M w with
    | none => rw [e1] at z; exact z.elim
    | some x =>
      cases e2 : view s'.M u with
      | none => rw [e1, e2] at z; exact z.elim
      | some y =>
        rw [e1, e2] at z
        dsimp only at z
        split at z
        · rename_i e3
          refine ⟨x, y, true, rfl, rfl, e3, ?_⟩
          rw [if_pos rfl]
          rw [wp_bind] at z
          refine z.mono fun v s2 z => ?_
          cases e4 : view s2.M u with
          | none => rw [e4] at z; exact z.elim
          | some y' =>
            cases e5 : view s2.M v with
            | none => rw [e4, e5] at z; exact z.elim
            | some z' =>
              rw [e4, e5] at z
              obtain ⟨r, e6, z⟩ := wp_lift.mp z
              exact ⟨y', z', r, rfl, rfl, e6, z⟩
        · rename_i e3
          refine ⟨x, y, false, rfl, rfl, e3, ?_⟩
          rw [if_neg (by simp)]
          exact z
        · exact z.elim
  · rw [wp_bind]
    refine z.mono fun u s' z => ?_
    obtain ⟨x, y, c, e1, e2, e3, z⟩ := z
    rw [e1, e2]
    dsimp only
    rw [e3]
    cases c with
    | true =>
      rw [if_pos rfl] at z
      dsimp only
      rw [wp_bind]
      refine z.mono fun v s2 z => ?_
      obtain ⟨y', z', r, e4, e5, e6, z⟩ := z
      rw [e4, e5]
      exact wp_lift.mpr ⟨r, e6, z⟩
    | false => rw [if_neg (by simp)] at z; exact z
/-! items, fields, builtins -/
@[simp] theorem wp_ix : Wp (eIx f h st) Q ↔ Wp (evW f st) fun w s => Wp (evD h s) fun i s' => ∃ r, ixM s'.M w i = some r ∧ Q r s' := by
  unfold eIx; rw [wp_bind]
  constructor <;> intro hh <;> refine hh.mono fun w s z => ?_
  · rw [wp_bind] at z; exact z.mono fun u s' z => wp_lift.mp z
  · rw [wp_bind]; exact z.mono fun u s' z => wp_lift.mpr z
@[simp] theorem wp_fld {cs : List Nat} {n : Str} {g : Ev W} : Wp (eFld cs n g st) Q ↔ Wp (g st) fun w s => ∃ r, fldOf s.M cs n w = some r ∧ Q r s := by
  unfold eFld; rw [wp_bind]
  constructor <;> intro hh <;> refine hh.mono fun w s z => ?_
  · exact wp_lift.mp z
  · exact wp_lift.mpr z
@[simp] theorem wp_eoN {QO : Option Int → S → Prop} : Wp (eoN st) QO ↔ QO none st := Iff.rfl
@[simp] theorem wp_eoS {QO : Option Int → S → Prop} : Wp (eoS f st) QO ↔ Wp (evD f st) fun x s => ∃ i, x = .int i ∧ QO (some i) s := by
  unfold eoS; rw [wp_bind]
  constructor <;> intro hh <;> refine hh.mono fun r s z => ?_
  · cases r <;> first | exact ⟨_, rfl, z⟩ | exact z.elim
  · obtain ⟨k, rfl, z⟩ := z; exact z
@[simp] theorem wp_sl {lo hi : Ev (Option Int)} : Wp (eSl f lo hi st) Q ↔ Wp (evW f st) fun w s => Wp (lo s) fun l s1 => Wp (hi s1) fun u s2 => ∃ x r, view s2.M w = some x ∧ slD x l u = some r ∧ Q r s2 := by
  unfold eSl; rw [wp_bind]
  constructor <;> intro hh <;> refine hh.mono fun w s z => ?_
  · rw [wp_bind] at z
    refine z.mono fun l s1 z => ?_
    rw [wp_bind] at z
    refine z.mono fun u s2 z => ?_
    cases e1 : view s2.M w with
    | none => rw [e1] at z; exact z.elim
    | some x =>
      rw [e1] at z
      obtain ⟨r, e, z⟩ := wp_lift.mp z
      exact ⟨x, r, rfl, e, z⟩
  · rw [wp_bind]
    refine z.mono fun l s1 z => ?_
    rw [wp_bind]
    refine z.mono fun u s2 z => ?_
    obtain ⟨x, r, e1, e, z⟩ := z
    rw [e1]; exact wp_lift.mpr ⟨r, e, z⟩
@[simp] theorem wp_bf {bf : Bf} {fa : Ev (List W)} : Wp (eBf bf fa st) Q ↔ Wp (fa st) fun ws s => ∃ r, bf s.M ws = some r ∧ Q r s := by
  unfold eBf; rw [wp_bind]
  constructor <;> intro hh <;> refine hh.mono fun w s z => ?_
  · exact wp_lift.mp z
  · exact wp_lift.mpr z
end
/-! readings of cells -/
section
variable {M : List (Option Cell)} {i : Nat} {k : Int} {ws : List W} {x : D} {st : S}
theorem ixM_loc (h : M[i]? = some (some (.lst ws))) : ixM M (.loc i) (.int k) = (L2.atI ws k).map W.res := by
  unfold ixM; dsimp only; rw [h]
@[simp] theorem ixM_d {d : D} : ixM M (.d x) d = ixD x d := by cases d <;> rfl
theorem lstAt_loc (h : M[i]? = some (some (.lst ws))) : lstAt M (.loc i) = some (i, ws) := by
  unfold lstAt; dsimp only; rw [h]
@[simp] theorem view_d : view M (.d x) = some x := rfl
@[simp] theorem deepV_d {n : Nat} : deepV M n (.d x) = some x := by cases n <;> rfl
@[simp] theorem mayPut_d : mayPut st i (.d x) = true := rfl
@[simp] theorem res_d : W.res (.d x) = .d x := rfl
@[simp] theorem res_loc : W.res (.loc i) = .loc i := rfl
@[simp] theorem opI2_int {f : Int → Int → Option D} {i j : Int} : opI2 f (.int i) (.int j) = (f i j).map .d := rfl
@[simp] theorem opAdd_int {i j : Int} : opAdd (.int i) (.int j) = some (.d (.int (i + j))) := rfl
@[simp] theorem opGt_int {i j : Int} : opGt (.int i) (.int j) = some (decide (j < i)) := rfl
@[simp] theorem opLt_int {i j : Int} : opLt (.int i) (.int j) = some (decide (i < j)) := rfl
@[simp] theorem opGe_int {i j : Int} : opGe (.int i) (.int j) = some (decide (j ≤ i)) := rfl
@[simp] theorem opLe_int {i j : Int} : opLe (.int i) (.int j) = some (decide (i ≤ j)) := rfl
@[simp] theorem b1_d {f : D → Option Res} : b1 f M [.d x] = f x := rfl
@[simp] theorem dInt_int {i : Int} : dInt (.int i) = some (.d (.int i)) := rfl
@[simp] theorem fSub_eq {i j : Int} : fSub i j = some (.int (i - j)) := rfl
theorem fMul_ok {i j : Int} (h : i.natAbs.log2 + j.natAbs.log2 < 1000000) : fMul i j = some (.int (i * j)) := if_pos h
theorem fDiv_ok {i j : Int} (h : 0 < j) (h2 : j.natAbs.log2 < 9000) : fDiv i j = some (.int (i / j)) := if_pos ⟨h, h2⟩
theorem fMod_ok {i j : Int} (h : 0 < j) : fMod i j = some (.int (i % j)) := if_pos h
theorem fPow_ok {i j : Int} (h : 0 ≤ j ∧ j ≤ 1000000 ∧ i.natAbs < 2 ^ 64) : fPow i j = some (.int (i ^ j.toNat)) := if_pos h
theorem log2_small {i : Int} (h : i.natAbs < 2 ^ 1000) : i.natAbs.log2 < 1000 := by
  by_cases z : i.natAbs = 0
  · rw [z]; decide
  · exact (Nat.log2_lt z).mpr h
end
end Pm

set_option maxHeartbeats 2000000
/-! Q24: what calls, statements, loops, comprehensions give -/
namespace Pm
open PySem

@[irreducible] def Fw (o : Option (Out Res × List (Option Cell))) (Q : Res → List (Option Cell) → Prop) : Prop := match o with
  | some (.ok r, M) => Q r M
  | _ => False
theorem Fw.mono {o : Option (Out Res × List (Option Cell))} {Q Q' : Res → List (Option Cell) → Prop} (h : Fw o Q) (k : ∀ r M, Q r M → Q' r M) : Fw o Q' := by
  unfold Fw at h ⊢
  split at h
  · exact k _ _ h
  · exact h.elim
theorem Fw.get {o : Option (Out Res × List (Option Cell))} {Q : Res → List (Option Cell) → Prop} (h : Fw o Q) : ∃ r M, o = some (.ok r, M) ∧ Q r M := by
  unfold Fw at h
  split at h
  · exact ⟨_, _, rfl, h⟩
  · exact h.elim
section
variable {Q : Res → S → Prop} {QF : Fl → S → Prop} {QM : Res → List (Option Cell) → Prop} {st : S} {sl : List Sl} {M : List (Option Cell)} {b : Nat} {f h : Ev Res} {fa fk : Ev (List W)} {fs : Fn} {gW : List W → List W → List W} {n m c : Nat}
@[simp] theorem wp_callF {ws : List W} : Wp (eCallF fs ws st) Q ↔ Fw (fs ws st.M) fun r M' => Q r ⟨st.sl, M', st.b⟩ := by
  unfold eCallF Fw
  cases fs ws st.M with
  | none => exact Iff.rfl
  | some p => obtain ⟨o, M'⟩ := p; cases o <;> exact Iff.rfl
@[simp] theorem wp_callK : Wp (eCallK fs gW n m fa fk st) Q ↔ Wp (fa st) fun ws s => Wp (fk s) fun us s' => (ws.length = n ∧ us.length = m) ∧ Fw (fs (gW ws us) s'.M) fun r M' => Q r ⟨s'.sl, M', s'.b⟩ := by
  unfold eCallK; rw [wp_bind]
  constructor <;> intro hh <;> refine hh.mono fun ws s z => ?_
  · rw [wp_bind] at z
    refine z.mono fun us s' z => ?_
    split at z
    · exact ⟨by assumption, wp_callF.mp z⟩
    · exact z.elim
  · rw [wp_bind]
    refine z.mono fun us s' z => ?_
    rw [if_pos z.1]; exact wp_callF.mpr z.2
@[simp] theorem wp_meth {fo : Ev W} {nm : Str} : Wp (eMeth fs gW c nm n m fo fa fk st) Q ↔ Wp (fo st) fun w s => isInsB s.M c nm w = true ∧ Wp (fa s) fun ws s1 => Wp (fk s1) fun us s' => ((w :: ws).length = n ∧ us.length = m) ∧ Fw (fs (gW (w :: ws) us) s'.M) fun r M' => Q r ⟨s'.sl, M', s'.b⟩ := by
  unfold eMeth; rw [wp_bind]
  constructor <;> intro hh <;> refine hh.mono fun w s z => ?_
  · split at z
    · refine ⟨by assumption, ?_⟩
      rw [wp_bind] at z
      refine z.mono fun ws s1 z => ?_
      rw [wp_bind] at z
      refine z.mono fun us s' z => ?_
      split at z
      · exact ⟨by assumption, wp_callF.mp z⟩
      · exact z.elim
    · exact z.elim
  · rw [if_pos z.1]
    replace z := z.2
    rw [wp_bind]
    refine z.mono fun ws s1 z => ?_
    rw [wp_bind]
    refine z.mono fun us s' z => ?_
    rw [if_pos z.1]; exact wp_callF.mpr z.2
@[simp] theorem wp_make : Wp (eMake c fs gW n m fa fk st) Q ↔ Wp (fa st) fun ws s => Wp (fk s) fun us s' => (ws.length + 1 = n ∧ us.length = m) ∧ Fw (mkF c fs (fun x => gW (x :: ws) us) [] s'.M) fun r M' => Q r ⟨s'.sl, M', s'.b⟩ := by
  unfold eMake; rw [wp_bind]
  constructor <;> intro hh <;> refine hh.mono fun ws s z => ?_
  · rw [wp_bind] at z
    refine z.mono fun us s' z => ?_
    split at z
    · exact ⟨by assumption, wp_callF.mp z⟩
    · exact z.elim
  · rw [wp_bind]
    refine z.mono fun us s' z => ?_
    rw [if_pos z.1]; exact wp_callF.mpr z.2
theorem fw_mk {args : W → List W} {ws : List W} : Fw (mkF c fs args ws M) QM ↔ Fw (fs (args (.loc M.length)) (M ++ [some (.ins c [])])) fun r M' => r = .d .non ∧ ∃ c', M'[M.length]? = some (some c') ∧ c'.belowB M.length = true ∧ QM (.new c') (M'.take M.length) := by
  unfold mkF Fw
  cases fs (args (.loc M.length)) (M ++ [some (.ins c [])]) with
  | none => exact Iff.rfl
  | some p =>
    obtain ⟨o, M'⟩ := p
    cases o with
    | exc x => exact Iff.rfl
    | ok r =>
      constructor
      · intro z
        cases r with
        | d y =>
          cases y with
          | non =>
            dsimp only at z
            cases e : M'[M.length]? with
            | none => rw [e] at z; exact z.elim
            | some q =>
              cases q with
              | none => rw [e] at z; exact z.elim
              | some c' =>
                rw [e] at z
                dsimp only at z
                cases eb : c'.belowB M.length with
                | false => rw [eb] at z; exact z.elim
                | true => rw [eb] at z; exact ⟨rfl, c', e, eb, z⟩
          | _ => exact z.elim
        | _ => exact z.elim
      · rintro ⟨rfl, c', e, eb, z⟩
        dsimp only
        rw [e]
        dsimp only
        rw [if_pos eb]
        exact z
theorem fw_fn {N : Nat} {body : Ev Fl} {ws : List W} : Fw (fnOf N body ws M) QM ↔ Wp (body ⟨ws.map .w ++ List.replicate (N - ws.length) .no, M, M.length⟩) fun fl s => match fl with
  | .nx => QM (.d .non) (s.M.take M.length)
  | .ret r => ∃ r', retR M.length s.M r = some r' ∧ QM r' (s.M.take M.length)
  | _ => False := by
  unfold fnOf Fw Wp
  cases body ⟨ws.map .w ++ List.replicate (N - ws.length) .no, M, M.length⟩ with
  | none => exact Iff.rfl
  | some p =>
    obtain ⟨o, s⟩ := p
    cases o with
    | exc x => exact Iff.rfl
    | ok fl =>
      cases fl with
      | nx => exact Iff.rfl
      | brk => exact Iff.rfl
      | ct => exact Iff.rfl
      | ret r =>
        dsimp only
        cases e : retR M.length s.M r with
        | none => simp
        | some r' => simp
/-! statements -/
variable {p q : Ev Fl}
@[simp] theorem wp_seq : Wp (fSeq p q st) QF ↔ Wp (p st) fun fl s => match fl with
  | .nx => Wp (q s) QF
  | fl => QF fl s := by
  unfold fSeq; rw [wp_bind]
  constructor <;> intro hh <;> refine hh.mono fun fl s z => ?_ <;> cases fl <;> exact z
@[simp] theorem wp_nx : Wp (fNx st) QF ↔ QF .nx st := Iff.rfl
@[simp] theorem wp_brk : Wp (fBrk st) QF ↔ QF .brk st := Iff.rfl
@[simp] theorem wp_ct : Wp (fCt st) QF ↔ QF .ct st := Iff.rfl
@[simp] theorem wp_fif {t : Ev Bool} : Wp (fIf t p q st) QF ↔ Wp (t st) fun c s => if c then Wp (p s) QF else Wp (q s) QF := by
  unfold fIf; rw [wp_bind]
  constructor <;> intro hh <;> refine hh.mono fun c s z => ?_ <;> cases c <;> simpa using z
@[simp] theorem wp_ret : Wp (fRet f st) QF ↔ Wp (f st) fun r s => QF (.ret r) s := by unfold fRet; rw [wp_bind]; exact Iff.rfl
@[simp] theorem wp_retD : Wp (fRetD f st) QF ↔ Wp (evD f st) fun r s => QF (.ret (.d r)) s := by unfold fRetD; rw [wp_bind]; exact Iff.rfl
@[simp] theorem wp_retN : Wp (fRetN st) QF ↔ QF (.ret (.d .non)) st := Iff.rfl
@[simp] theorem wp_expr : Wp (fExpr f st) QF ↔ Wp (f st) fun _ s => QF .nx s := by unfold fExpr; rw [wp_bind]; exact Iff.rfl
@[simp] theorem wp_set {i : Nat} {g : Ev W} : Wp (fSet i g st) QF ↔ Wp (g st) fun w s => QF .nx ⟨s.sl.set i (.w w), s.M, s.b⟩ := by unfold fSet; rw [wp_bind]; exact Iff.rfl
@[simp] theorem wp_par {i j : Nat} : Wp (fPar i j fa st) QF ↔ Wp (fa st) fun ws s => ∃ v, ws[0]? = some v ∧ ∃ w, ws[1]? = some w ∧ ws.length = 2 ∧ QF .nx ⟨(s.sl.set i (.w v)).set j (.w w), s.M, s.b⟩ := by
  unfold fPar; rw [wp_bind]
  constructor <;> intro hh <;> refine hh.mono fun ws s z => ?_
  · split at z
    · exact ⟨_, rfl, _, rfl, rfl, z⟩
    · exact z.elim
  · obtain ⟨v, e1, w, e2, e3, z⟩ := z
    match ws, e1, e2, e3 with
    | [a, b], rfl, rfl, _ => exact z
@[simp] theorem wp_asg {g : Ev D} {k : D → S → Option S} : Wp (fAsg g k st) QF ↔ Wp (g st) fun d s => ∃ s', k d s = some s' ∧ QF .nx s' := by
  unfold fAsg; rw [wp_bind]
  constructor <;> intro hh <;> refine hh.mono fun d s z => ?_
  · cases e : k d s with
    | none => rw [e] at z; exact z.elim
    | some s' => rw [e] at z; exact ⟨s', rfl, z⟩
  · obtain ⟨s', e, z⟩ := z; rw [e]; exact z
@[simp] theorem wp_setFld {cs : List Nat} {nm : Str} {fo fv : Ev W} : Wp (fFld cs nm fo fv st) QF ↔ Wp (fv st) fun w s => Wp (fo s) fun u s' => ∃ s2, putF s' cs nm w u = some s2 ∧ QF .nx s2 := by
  unfold fFld; rw [wp_bind]
  constructor <;> intro hh <;> refine hh.mono fun d s z => ?_
  · rw [wp_bind] at z
    refine z.mono fun u s' z => ?_
    cases e : putF s' cs nm d u with
    | none => rw [e] at z; exact z.elim
    | some s2 => rw [e] at z; exact ⟨s2, rfl, z⟩
  · rw [wp_bind]
    refine z.mono fun u s' z => ?_
    obtain ⟨s2, e, z⟩ := z; rw [e]; exact z
@[simp] theorem wp_setIx {fo fv : Ev W} {fi : Ev D} : Wp (fIx fo fi fv st) QF ↔ Wp (fv st) fun w s => Wp (fo s) fun u s1 => Wp (fi s1) fun i s' => ∃ q, lstAt s'.M u = some q ∧ ∃ k, i = .int k ∧ ∃ n, L2.ixN q.2.length k = some n ∧ mayPut s' q.1 w = true ∧ QF .nx ⟨s'.sl, s'.M.set q.1 (some (.lst (q.2.set n w))), s'.b⟩ := by
  unfold fIx; rw [wp_bind]
  constructor <;> intro hh <;> refine hh.mono fun w s z => ?_
  · rw [wp_bind] at z
    refine z.mono fun u s1 z => ?_
    rw [wp_bind] at z
    refine z.mono fun i s' z => ?_
    cases e : lstAt s'.M u with
    | none => rw [e] at z; exact z.elim
    | some q =>
      obtain ⟨j, ws⟩ := q
      rw [e] at z
      cases i with
      | int k =>
        dsimp only at z
        cases e2 : L2.ixN ws.length k with
        | none => rw [e2] at z; exact z.elim
        | some n =>
          rw [e2] at z
          dsimp only at z
          split at z
          · exact ⟨(j, ws), rfl, k, rfl, n, e2, by assumption, z⟩
          · exact z.elim
      | _ => exact z.elim
  · rw [wp_bind]
    refine z.mono fun u s1 z => ?_
    rw [wp_bind]
    refine z.mono fun i s' z => ?_
    obtain ⟨⟨j, ws⟩, e, k, rfl, n, e2, e3, z⟩ := z
    rw [e]; dsimp only at e2 e3 z ⊢; rw [e2]; dsimp only; rw [if_pos e3]; exact z
@[simp] theorem wp_lm {step : S → Nat → List W → List W → Option (Res × List W)} {fo : Ev W} : Wp (eLm step fo fa st) Q ↔ Wp (fo st) fun w s => (lstAt s.M w).isSome = true ∧ Wp (fa s) fun as s' => ∃ q, lstAt s'.M w = some q ∧ ∃ p, step s' q.1 q.2 as = some p ∧ Q p.1 ⟨s'.sl, s'.M.set q.1 (some (.lst p.2)), s'.b⟩ := by
  unfold eLm; rw [wp_bind]
  constructor <;> intro hh <;> refine hh.mono fun w s z => ?_
  · cases e0 : lstAt s.M w with
    | none => rw [e0] at z; exact z.elim
    | some q0 =>
      rw [e0] at z
      refine ⟨rfl, ?_⟩
      dsimp only at z
      rw [wp_bind] at z
      refine z.mono fun as s' z => ?_
      cases e : lstAt s'.M w with
      | none => rw [e] at z; exact z.elim
      | some q =>
        obtain ⟨i, ws⟩ := q
        rw [e] at z
        dsimp only at z
        cases e2 : step s' i ws as with
        | none => rw [e2] at z; exact z.elim
        | some q2 => obtain ⟨r, ws'⟩ := q2; rw [e2] at z; exact ⟨(i, ws), rfl, (r, ws'), e2, z⟩
  · obtain ⟨e0, z⟩ := z
    cases e1 : lstAt s.M w with
    | none => rw [e1] at e0; cases e0
    | some q0 =>
      dsimp only
      rw [wp_bind]
      refine z.mono fun as s' z => ?_
      obtain ⟨⟨i, ws⟩, e, ⟨r, ws'⟩, e2, z⟩ := z
      rw [e]; dsimp only at e2 z ⊢; rw [e2]; exact z
/-! own operators -/
@[simp] theorem wp_ownEq {ts : List Tg} {neg : Bool} : Wp (eOwnEq fs c ts neg f h st) Q ↔ Wp (evW f st) fun w s => Wp (evW h s) fun u s' => (isCls s'.M c w && ((tgW s'.M u).any fun t => decide (t ∈ ts))) = true ∧ Fw (fs [w, u] s'.M) fun r M' => ∃ k, r = .d (.bl k) ∧ Q (.d (.bl (xor neg k))) ⟨s'.sl, M', s'.b⟩ := by
  unfold eOwnEq; rw [wp_bind]
  constructor <;> intro hh <;> refine hh.mono fun w s z => ?_
  · rw [wp_bind] at z
    refine z.mono fun u s' z => ?_
    split at z
    · refine ⟨by assumption, ?_⟩
      rw [wp_bind, wp_callF] at z
      refine z.mono fun r M' z => ?_
      obtain ⟨r', e, z⟩ := wp_lift.mp z
      unfold ownOut at e
      split at e
      · cases e; exact ⟨_, rfl, z⟩
      · cases e
    · exact z.elim
  · rw [wp_bind]
    refine z.mono fun u s' z => ?_
    rw [if_pos z.1, wp_bind, wp_callF]
    refine z.2.mono fun r M' z => ?_
    obtain ⟨k, rfl, z⟩ := z
    exact wp_lift.mpr ⟨_, rfl, z⟩
@[simp] theorem wp_own2 {hf hh : Ev W} : Wp (eOwn2 fs c hf hh st) Q ↔ Wp (hf st) fun w s => Wp (hh s) fun u s' => isCls s'.M c w = true ∧ Fw (fs [w, u] s'.M) fun r M' => Q r ⟨s'.sl, M', s'.b⟩ := by
  unfold eOwn2; rw [wp_bind]
  constructor <;> intro hx <;> refine hx.mono fun w s z => ?_
  · rw [wp_bind] at z
    refine z.mono fun u s' z => ?_
    split at z
    · exact ⟨by assumption, wp_callF.mp z⟩
    · exact z.elim
  · rw [wp_bind]
    refine z.mono fun u s' z => ?_
    rw [if_pos z.1]; exact wp_callF.mpr z.2
@[simp] theorem wp_ownLen {hf : Ev W} : Wp (eOwnLen fs c hf st) Q ↔ Wp (hf st) fun w s => isCls s.M c w = true ∧ Fw (fs [w] s.M) fun r M' => ∃ i, r = .d (.int i) ∧ (0 ≤ i ∧ i < 2 ^ 63) ∧ Q (.d (.int i)) ⟨s.sl, M', s.b⟩ := by
  unfold eOwnLen; rw [wp_bind]
  constructor <;> intro hx <;> refine hx.mono fun w s z => ?_
  · split at z
    · refine ⟨by assumption, ?_⟩
      rw [wp_bind, wp_callF] at z
      refine z.mono fun r M' z => ?_
      obtain ⟨r', e, z⟩ := wp_lift.mp z
      unfold lenOut at e
      split at e
      · split at e
        · cases e; exact ⟨_, rfl, by assumption, z⟩
        · cases e
      · cases e
    · exact z.elim
  · rw [if_pos z.1, wp_bind, wp_callF]
    refine z.2.mono fun r M' z => ?_
    obtain ⟨k, rfl, h1, z⟩ := z
    exact wp_lift.mpr ⟨_, by simp only [lenOut]; rw [if_pos h1], z⟩
end
/-! ### sources -/
section
variable {QL : List D → S → Prop} {st : S} {f : Ev Res} {fa : Ev (List W)}
@[simp] theorem wp_src : Wp (iSrc f st) QL ↔ Wp (evD f st) fun d s => ∃ ds, itD d = some ds ∧ QL ds s := by
  unfold iSrc; rw [wp_bind]
  constructor <;> intro hh <;> refine hh.mono fun w s z => ?_
  · exact wp_lift.mp z
  · exact wp_lift.mpr z
@[simp] theorem wp_enum : Wp (iEnumL f st) QL ↔ Wp (evD f st) fun d s => ∃ ds, lstD d = some ds ∧ QL (enumD ds) s := by
  unfold iEnumL; rw [wp_bind]
  constructor <;> intro hh <;> refine hh.mono fun w s z => ?_
  · obtain ⟨a, e, z⟩ := wp_lift.mp z
    obtain ⟨ds, e2, rfl⟩ := Option.map_eq_some_iff.mp e
    exact ⟨ds, e2, z⟩
  · obtain ⟨ds, e, z⟩ := z
    exact wp_lift.mpr ⟨_, by rw [e]; rfl, z⟩
@[simp] theorem wp_range1' : Wp (iRange1 fa st) QL ↔ Wp (fa st) fun ws s => ∃ j, ws = [.d (.int j)] ∧ smallI j = true ∧ QL (rngD 0 j.toNat) s := by
  unfold iRange1; rw [wp_bind]
  constructor <;> intro hh <;> refine hh.mono fun ws s z => ?_
  · obtain ⟨a, e, z⟩ := wp_lift.mp z
    split at e
    · split at e
      · cases e; exact ⟨_, rfl, by assumption, z⟩
      · cases e
    · cases e
  · obtain ⟨j, rfl, hj, z⟩ := z
    exact wp_lift.mpr ⟨_, by simp only [hj]; rfl, z⟩
@[simp] theorem wp_range2' : Wp (iRange2 fa st) QL ↔ Wp (fa st) fun ws s => ∃ i, ws[0]? = some (.d (.int i)) ∧ ∃ j, ws[1]? = some (.d (.int j)) ∧ ws.length = 2 ∧ (smallI i = true ∧ smallI j = true) ∧ QL (rngD i (j - i).toNat) s := by
  unfold iRange2; rw [wp_bind]
  constructor <;> intro hh <;> refine hh.mono fun ws s z => ?_
  · obtain ⟨a, e, z⟩ := wp_lift.mp z
    split at e
    · split at e
      · rename_i hh'
        simp only [Bool.and_eq_true] at hh'
        cases e; exact ⟨_, rfl, _, rfl, rfl, hh', z⟩
      · cases e
    · cases e
  · obtain ⟨i, e1, j, e2, e3, hj, z⟩ := z
    match ws, e1, e2, e3 with
    | [a, b], e1, e2, _ =>
      obtain rfl : a = _ := Option.some.inj e1
      obtain rfl : b = _ := Option.some.inj e2
      exact wp_lift.mpr ⟨_, (if_pos (by rw [hj.1, hj.2]; rfl)), z⟩
end
/-! ### loops -/
section
variable {QF : Fl → S → Prop} {st : S} {k : D → S → Option S} {body : Ev Fl}
theorem wp_loop (Inv : Nat → S → Prop) {ds : List D} (h0 : Inv 0 st) (step : ∀ i d s, ds[i]? = some d → Inv i s → ∃ s', k d s = some s' ∧ Wp (body s') fun fl s2 => match fl with
    | .nx => Inv (i + 1) s2
    | .ct => Inv (i + 1) s2
    | .brk => QF .nx s2
    | .ret r => QF (.ret r) s2) (fin : ∀ s, Inv ds.length s → QF .nx s) : Wp (fLoop k body ds st) QF := by
  have key : ∀ (n i : Nat) (s : S), ds.length - i = n → i ≤ ds.length → Inv i s → Wp (fLoop k body (ds.drop i) s) QF := by
    intro n
    induction n with
    | zero =>
      intro i s hn hi h
      have e : i = ds.length := by omega
      rw [List.drop_eq_nil_of_le (by omega)]
      exact fin s (e ▸ h)
    | succ n ih =>
      intro i s hn hi h
      have hl : i < ds.length := by omega
      rw [List.drop_eq_getElem_cons hl]
      obtain ⟨s', e, w⟩ := step i ds[i] s (List.getElem?_eq_getElem hl) h
      simp only [fLoop]
      rw [e]
      dsimp only
      rw [wp_bind]
      refine w.mono fun fl s2 z => ?_
      cases fl with
      | nx => exact ih (i + 1) s2 (by omega) (by omega) z
      | ct => exact ih (i + 1) s2 (by omega) (by omega) z
      | brk => exact z
      | ret r => exact z
  have := key _ 0 st rfl (Nat.zero_le _) h0
  simpa using this
@[simp] theorem wp_for {fi : Ev (List D)} : Wp (fFor fi k body st) QF ↔ Wp (fi st) fun ds s => Wp (fLoop k body ds s) QF := by unfold fFor; rw [wp_bind]
@[simp] theorem kName_eq {i : Nat} {d : D} {s : S} : kName i d s = some ⟨s.sl.set i (.w (.d d)), s.M, s.b⟩ := rfl
@[simp] theorem kTup_eq {r : List D → S → Option S} {ds : List D} {s : S} : kTup r (.tup ds) s = r ds s := rfl
@[simp] theorem kCons_eq {k : D → S → Option S} {r : List D → S → Option S} {d : D} {ds : List D} {s : S} : kCons k r (d :: ds) s = (k d s).bind fun s' => r ds s' := by
  simp only [kCons]; cases k d s <;> rfl
@[simp] theorem kNil_eq {s : S} : kNil [] s = some s := rfl
end
/-! ### comprehensions -/
section
variable {Q : Res → S → Prop} {st : S} {k : D → S → Option S} {vs : List Nat} {ft : Ev Bool} {fe : Ev W} {fi : Ev (List D)}
/-- by an invariant: turns done, told so far -/
theorem wp_comp (Inv : Nat → List W → S → Prop) (hi : Wp (fi st) fun ds s0 => Inv 0 [] s0 ∧
      (∀ i d acc s, ds[i]? = some d → Inv i acc s → ∃ s', k d ⟨wipeSl s.sl vs, s.M, s.b⟩ = some s' ∧ Wp (ft s') fun c s2 => if c then Wp (fe s2) fun w s3 => acc.length < sizeLine ∧ Inv (i + 1) (acc ++ [w]) s3 else Inv (i + 1) acc s2) ∧
      ∀ acc s, Inv ds.length acc s → Q (.new (.lst acc)) ⟨keepSl s0.sl s.sl vs, s.M, s.b⟩) : Wp (eComp fi k vs ft fe st) Q := by
  unfold eComp
  rw [wp_bind]
  refine hi.mono fun ds s0 ⟨h0, step, fin⟩ => ?_
  have key : ∀ (n i : Nat) (acc : List W) (s : S), ds.length - i = n → i ≤ ds.length → Inv i acc s → Wp (compFin s0 vs (compGo k vs (compIf ft (tellW fe)) acc (ds.drop i) s)) Q := by
    intro n
    induction n with
    | zero =>
      intro i acc s hn hi h
      have e : i = ds.length := by omega
      rw [List.drop_eq_nil_of_le (by omega)]
      exact fin acc s (e ▸ h)
    | succ n ih =>
      intro i acc s hn hi h
      have hl : i < ds.length := by omega
      rw [List.drop_eq_getElem_cons hl]
      obtain ⟨s', e, w⟩ := step i ds[i] acc s (List.getElem?_eq_getElem hl) h
      rw [compGo_cons e]
      obtain ⟨c, s2, e2, w⟩ := w.get
      cases c with
      | false =>
        rw [if_neg (by simp)] at w
        rw [compIf_f e2]
        exact ih (i + 1) acc s2 (by omega) (by omega) w
      | true =>
        rw [if_pos rfl] at w
        rw [compIf_t e2]
        obtain ⟨v, s3, e3, hl3, w⟩ := w.get
        unfold tellW
        rw [e3]
        dsimp only
        rw [if_pos hl3]
        exact ih (i + 1) (acc ++ [v]) s3 (by omega) (by omega) w
  have := key _ 0 [] s0 rfl (Nat.zero_le _) h0
  simpa using this
end
end Pm

set_option maxHeartbeats 2000000
/-! Q25: plain facts -/
namespace Pm
open PySem L2
section
variable {M : List (Option Cell)} {i : Nat} {x c : Option Cell} {α : Type}
@[simp] theorem take_len_set : List.take M.length (M.set i x) = M.set i x := List.take_of_length_le (by simp)
@[simp] theorem take_len_set2 {y : Option Cell} {j : Nat} : List.take M.length ((M.set i x).set j y) = (M.set i x).set j y := List.take_of_length_le (by simp)
@[simp] theorem take_len_app {l : List (Option Cell)} : List.take M.length (M.set i x ++ l) = M.set i x := by
  rw [List.take_append_of_le_length (by simp), take_len_set]
theorem set_app (h : i < M.length) {l : List (Option Cell)} : (M ++ l).set i x = M.set i x ++ l := List.set_append_left _ _ h
theorem get_app (h : i < M.length) {l : List (Option Cell)} : (M ++ l)[i]? = M[i]? := List.getElem?_append_left h
theorem get_app2 {N l : List (Option Cell)} (h : N.length = M.length) : (N ++ l)[M.length]? = l[0]? := by
  rw [← h, List.getElem?_append_right (Nat.le_refl _)]; simp
theorem set_app2 {N l : List (Option Cell)} (h : N.length = M.length) : (N ++ l).set M.length x = N ++ l.set 0 x := by
  rw [← h, List.set_append_right _ _ (Nat.le_refl _)]; simp
theorem get_set (h : i < M.length) : (M.set i x)[i]? = some x := List.getElem?_set_self h
@[simp] theorem set_set' {y : Option Cell} : (M.set i x).set i y = M.set i y := List.set_set ..
@[simp] theorem bLen_d {d : D} : bLen M [.d d] = dLen d := rfl
theorem bLen_loc {j : Nat} {ws : List W} (h : M[j]? = some (some (.lst ws))) : bLen M [.loc j] = some (.d (.int ws.length)) := by
  unfold bLen; dsimp only; rw [h]
@[simp] theorem dLen_lst {xs : List D} : dLen (.lst xs) = some (.d (.int xs.length)) := rfl
@[simp] theorem dLen_tup {xs : List D} : dLen (.tup xs) = some (.d (.int xs.length)) := rfl
@[simp] theorem dLen_scr {xs : List D} : dLen (.scr xs) = some (.d (.int xs.length)) := rfl
theorem dLen_str {z : Str} (h : z.length ≤ sizeLine) : dLen (.str z) = some (.d (.int z.length)) := if_pos h
@[simp] theorem seqD_lst {xs : List D} : seqD (.lst xs) = some xs := rfl
@[simp] theorem seqD_tup {xs : List D} : seqD (.tup xs) = some xs := rfl
@[simp] theorem lstD_lst {xs : List D} : lstD (.lst xs) = some xs := rfl
@[simp] theorem itD_lst {xs : List D} : itD (.lst xs) = some xs := rfl
@[simp] theorem itD_tup {xs : List D} : itD (.tup xs) = some xs := rfl
@[simp] theorem itD_str {z : Str} : itD (.str z) = some (z.cps.toList.map fun c => .str ⟨#[c]⟩) := rfl
@[simp] theorem ixD_lst {xs : List D} {k : Int} : ixD (.lst xs) (.int k) = (atI xs k).map .d := rfl
@[simp] theorem ixD_tup {xs : List D} {k : Int} : ixD (.tup xs) (.int k) = (atI xs k).map .d := rfl
theorem ixD_str {z : Str} {k : Int} (h : z.length ≤ sizeLine) : ixD (.str z) (.int k) = (atI z.cps.toList k).map fun c => .d (.str ⟨#[c]⟩) := if_pos h
@[simp] theorem bList_d {d : D} : bList M [.d d] = (seqD d).map fun xs => .new (.lst (xs.map .d)) := rfl
@[simp] theorem dTup_eq {d : D} : dTup d = (seqD d).map fun xs => .d (.tup xs) := rfl
theorem opAdd_str {a b : Str} (h : a.length + b.length ≤ sizeLine) : opAdd (.str a) (.str b) = some (.d (.str (a ++ b))) := if_pos h
theorem opAdd_lst {a b : List D} (h : a.length + b.length ≤ sizeLine) : opAdd (.lst a) (.lst b) = some (.new (.lst ((a ++ b).map .d))) := if_pos h
@[simp] theorem dats_map {xs : List D} : dats (xs.map .d) = some xs := by
  induction xs with
  | nil => rfl
  | cons x r ih => simp [dats, ih]
@[simp] theorem dats_nil : dats [] = some [] := rfl
@[simp] theorem dats_cons {x : D} {r : List W} : dats (.d x :: r) = (dats r).map (x :: ·) := rfl
@[simp] theorem frz_lst {ws : List W} : (Cell.lst ws).frz = (dats ws).map .lst := rfl
@[simp] theorem retR_d {b : Nat} {d : D} : retR b M (.d d) = some (.d d) := rfl
@[simp] theorem truD_bl {b : Bool} : truD (.bl b) = some b := rfl
@[simp] theorem truD_lst {xs : List D} : truD (.lst xs) = some (!xs.isEmpty) := rfl
theorem atI_mem {xs : List α} {k : Int} (h0 : 0 ≤ k) (h1 : k < xs.length) : ∃ x, atI xs k = some x ∧ x ∈ xs := by
  have hk : k.toNat < xs.length := by omega
  refine ⟨xs[k.toNat], ?_, List.getElem_mem hk⟩
  unfold atI ixN
  rw [if_pos h0, if_pos h1]
  exact List.getElem?_eq_getElem hk
theorem rngD_get {lo : Int} {n j : Nat} {d : D} (h : (rngD lo n)[j]? = some d) : d = .int (lo + j) ∧ j < n := by
  unfold rngD at h
  rw [List.getElem?_map] at h
  obtain ⟨c, hc, rfl⟩ := Option.map_eq_some_iff.mp h
  obtain ⟨h1, rfl⟩ := List.getElem?_eq_some_iff.mp hc
  simp only [List.length_range] at h1
  exact ⟨by rw [List.getElem_range], h1⟩
@[simp] theorem rngD_len {lo : Int} {n : Nat} : (rngD lo n).length = n := by simp [rngD]
theorem big : 10000000 ≤ sizeLine := by decide
/-- a word of these signs -/
structure Wd (sg : Str) (m : Nat) (w : Str) : Prop where
  len : w.length ≤ m
  sub : ∀ c ∈ w.cps.toList, c ∈ sg.cps.toList
theorem wd_nil (sg : Str) : Wd sg 0 "" := ⟨by decide, fun c h => by
  have e : ("" : Str).cps.toList = [] := by decide
  rw [e] at h; exact absurd h (by simp)⟩
theorem len_app (x y : Str) : (x ++ y).length = x.length + y.length := by
  show (x.cps ++ y.cps).size = _
  simp [Str.length]
theorem wd_add {sg w : Str} {m c : Nat} (h : Wd sg m w) (hc : c ∈ sg.cps.toList) : Wd sg (m + 1) (w ++ ⟨#[c]⟩) ∧ (w ++ (⟨#[c]⟩ : Str)).length = w.length + 1 := by
  refine ⟨⟨?_, fun d hd => ?_⟩, len_app _ _⟩
  · have := h.len
    rw [len_app]
    show w.length + 1 ≤ m + 1
    omega
  · have e : (w ++ (⟨#[c]⟩ : Str)).cps.toList = w.cps.toList ++ [c] := by
      show (w.cps ++ #[c]).toList = _
      simp
    rw [e] at hd
    rcases List.mem_append.mp hd with q | q
    · exact h.sub d q
    · simp at q; rw [q]; exact hc
end
end Pm

set_option maxHeartbeats 2000000
/-! Q26: sorted, each once -/
namespace Pm
open PySem L2
def each (ds : List D) : List D := srtD (ddD ds)
def okM (n : Nat) (ds : List D) : Prop := ∀ x ∈ ds, okH n x = true
theorem okM_iff {n : Nat} {ds : List D} : okHs n ds = true ↔ okM n ds := by
  rw [okHs_all, List.all_eq_true]; exact Iff.rfl
section
variable {n : Nat} {l m : List D}
theorem mem_srt {x : D} : x ∈ srtD l ↔ x ∈ l := (srtD_perm l).mem_iff
theorem mem_each (k : okM n l) {x : D} : x ∈ each l ↔ x ∈ l := by
  unfold each
  rw [mem_srt]
  exact ⟨ddD_sub, (ddD_nd (okM_iff.mpr k)).2 x⟩
theorem each_nd (k : okM n l) : (each l).Nodup := ((srtD_perm _).nodup_iff).mpr (ddD_nd (okM_iff.mpr k)).1
theorem each_srt : (each l).Pairwise fun a b => leD a b = true := srtD_srt _
theorem each_ok (k : okM n l) : okM n (each l) := fun x h => k x ((mem_each k).mp h)
/-- sorted, each once: told by its members -/
theorem uniq (k : okM n l) (n1 : l.Nodup) (n2 : m.Nodup) (s1 : l.Pairwise fun a b => leD a b = true) (s2 : m.Pairwise fun a b => leD a b = true) (h : ∀ x, x ∈ l ↔ x ∈ m) : l = m :=
  srt_uniq k (nodup_perm n1 n2 h) s1 s2
theorem each_congr (k : okM n l) (k' : okM n m) (h : ∀ x, x ∈ l ↔ x ∈ m) : each l = each m :=
  uniq (each_ok k) (each_nd k) (each_nd k') each_srt each_srt fun x => by rw [mem_each k, mem_each k', h]
theorem each_id (k : okM n l) (n1 : l.Nodup) (s1 : l.Pairwise fun a b => leD a b = true) : each l = l :=
  uniq (each_ok k) (each_nd k) n1 each_srt s1 fun x => mem_each k
theorem each_srtD (k : okM n l) (n1 : l.Nodup) : each l = srtD l :=
  uniq (each_ok k) (each_nd k) ((srtD_perm l).nodup_iff.mpr n1) each_srt (srtD_srt l) fun x => by rw [mem_each k, mem_srt]
theorem leD_refl (a : D) : leD a a = true := by have := leD_tot a a; simpa using this
open Classical in
/-- one more at the end of a sorted list: the law's own way -/
noncomputable def addL1 (acc : List D) (x : D) : List D := if acc = [] ∨ acc.getLast? ≠ some x then acc ++ [x] else acc
noncomputable def dedupA (l : List D) : List D := l.foldl addL1 []
theorem dedup_inv (k : okM n l) (s : l.Pairwise fun a b => leD a b = true) : (dedupA l).Nodup ∧ ((dedupA l).Pairwise fun a b => leD a b = true) ∧ (∀ x, x ∈ dedupA l ↔ x ∈ l) := by
  have key : ∀ (r acc : List D), okM n r → okM n acc → acc.Nodup → (acc.Pairwise fun a b => leD a b = true) → (∀ a ∈ acc, ∀ b ∈ r, leD a b = true) → (r.Pairwise fun a b => leD a b = true) → (acc ≠ [] ∨ True) →
      ((r.foldl addL1 acc).Nodup ∧ ((r.foldl addL1 acc).Pairwise fun a b => leD a b = true) ∧ ∀ x, x ∈ r.foldl addL1 acc ↔ x ∈ acc ∨ x ∈ r) := by
    intro r
    induction r with
    | nil => intro acc _ _ h1 h2 _ _ _; exact ⟨h1, h2, fun x => by simp⟩
    | cons y r ih =>
      intro acc kr ka h1 h2 h3 h4 _
      have kr' : okM n r := fun x hx => kr x (List.mem_cons_of_mem _ hx)
      have h4' := List.pairwise_cons.mp h4
      rw [List.foldl_cons]
      by_cases hy : acc = [] ∨ acc.getLast? ≠ some y
      · have e : addL1 acc y = acc ++ [y] := if_pos hy
        rw [e]
        have ny : y ∉ acc := by
          intro hm
          rcases hy with h | h
          · rw [h] at hm; cases hm
          · apply h
            obtain ⟨z, hz⟩ : ∃ z, acc.getLast? = some z := by
              cases q : acc.getLast? with
              | none => rw [List.getLast?_eq_none_iff.mp q] at hm; cases hm
              | some z => exact ⟨z, rfl⟩
            rw [hz]
            obtain ⟨ys, rfl⟩ := List.getLast?_eq_some_iff.mp hz
            rcases List.mem_append.mp hm with q | q
            · have a1 := (List.pairwise_append.mp h2).2.2 y q z (by simp)
              have a2 := h3 z (by simp) y List.mem_cons_self
              exact congrArg some (leD_anti (ka z (by simp)) (kr y List.mem_cons_self) a2 a1)
            · have : y = z := by simpa using q
              rw [this]
        obtain ⟨g1, g2, g3⟩ := ih (acc ++ [y]) kr' (fun x hx => by
          rcases List.mem_append.mp hx with q | q
          · exact ka x q
          · have : x = y := by simpa using q
            rw [this]; exact kr y List.mem_cons_self) (by
          rw [List.nodup_append]
          refine ⟨h1, by simp, fun a ha b hb => ?_⟩
          have : b = y := by simpa using hb
          rw [this]; intro z; exact ny (z ▸ ha)) (by
          rw [List.pairwise_append]
          refine ⟨h2, by simp, fun a ha b hb => ?_⟩
          have : b = y := by simpa using hb
          rw [this]; exact h3 a ha y List.mem_cons_self) (fun a ha b hb => by
          rcases List.mem_append.mp ha with q | q
          · exact h3 a q b (List.mem_cons_of_mem _ hb)
          · have : a = y := by simpa using q
            rw [this]; exact h4'.1 b hb) h4'.2 (.inr trivial)
        refine ⟨g1, g2, fun x => ?_⟩
        rw [g3]; simp; constructor
        · rintro ((q | q) | q) <;> simp [q]
        · rintro (q | q | q) <;> simp [q]
      · have e : addL1 acc y = acc := if_neg hy
        rw [e]
        obtain ⟨g1, g2, g3⟩ := ih acc kr' ka h1 h2 (fun a ha b hb => h3 a ha b (List.mem_cons_of_mem _ hb)) h4'.2 (.inr trivial)
        refine ⟨g1, g2, fun x => ?_⟩
        have my : y ∈ acc := by
          have : acc.getLast? = some y := Classical.not_not.mp fun z => hy (.inr z)
          exact List.mem_of_getLast? this
        rw [g3]; simp; constructor
        · rintro (q | q) <;> simp [q]
        · rintro (q | rfl | q)
          · exact .inl q
          · exact .inl my
          · exact .inr q
  obtain ⟨g1, g2, g3⟩ := key l [] k (fun x h => by cases h) List.nodup_nil List.Pairwise.nil (fun a h => by cases h) s (.inr trivial)
  exact ⟨g1, g2, fun x => by rw [show dedupA l = l.foldl addL1 [] from rfl, g3]; simp⟩
theorem dedup_each (k : okM n l) : dedupA (srtD l) = each l := by
  have ks : okM n (srtD l) := fun x h => k x (mem_srt.mp h)
  obtain ⟨g1, g2, g3⟩ := dedup_inv ks (srtD_srt l)
  exact (uniq (each_ok k) (each_nd k) g1 each_srt g2 fun x => by rw [mem_each k, g3, mem_srt]).symm
end
end Pm

set_option maxHeartbeats 2000000
/-! Q27: == and in over hashable data; lists in cells; words -/
namespace Pm
open PySem L2
mutual
theorem okD_H : ∀ {n : Nat} {d : D}, okH n d = true → okD n d = true
  | _, .int _, _ => by simp [okD]
  | _, .str x, h => by simpa [okD, okH] using h
  | n + 1, .tup xs, h => by
    simp only [okH] at h
    simp only [okD]
    exact okDs_H h
  | 0, .tup xs, h => by simp [okH] at h
  | _, .non, h => by simp [okH] at h
  | _, .bl _, h => by simp [okH] at h
  | _, .lst _, h => by simp [okH] at h
  | _, .obj _ _, h => by simp [okH] at h
  | _, .ty _, h => by simp [okH] at h
  | _, .cls _, h => by simp [okH] at h
  | _, .scr _, h => by simp [okH] at h
theorem okDs_H : ∀ {n : Nat} {d : List D}, okHs n d = true → okDs n d = true
  | _, [], _ => by simp [okDs]
  | n, x :: xs, h => by
    simp only [okHs, Bool.and_eq_true] at h
    simp only [okDs, Bool.and_eq_true]
    exact ⟨okD_H h.1, okDs_H h.2⟩
end
section
variable {n : Nat} {a b : D} {l m : List D} {neg : Bool}
theorem opIn_yes (ka : okH 8 a = true) (kl : okM 8 l) (h : a ∈ l) : opIn neg a (.lst l) = some (!neg) := by
  have e1 : okD 60 a = true := okD_H (okH_mono a (by decide) ka)
  have e2 : okDs 60 l = true := okDs_H (okHs_mono l (by decide) (okM_iff.mpr kl))
  have e3 : (l.any fun y => dEq y a) = true := List.any_eq_true.mpr ⟨a, h, (dEq_iff 8 8 a a ka ka).mpr rfl⟩
  cases a <;> simp only [opIn, e1, e2, e3, Bool.and_self, if_true, Bool.xor_true] <;> simp [okH] at ka
theorem opIn_no (ka : okH 8 a = true) (kl : okM 8 l) (h : a ∉ l) : opIn neg a (.lst l) = some neg := by
  have e1 : okD 60 a = true := okD_H (okH_mono a (by decide) ka)
  have e2 : okDs 60 l = true := okDs_H (okHs_mono l (by decide) (okM_iff.mpr kl))
  have e3 : (l.any fun y => dEq y a) = false := by
    cases q : l.any fun y => dEq y a with
    | false => rfl
    | true =>
      obtain ⟨y, hy, e⟩ := List.any_eq_true.mp q
      have := (dEq_iff 8 8 y a (kl y hy) ka).mp e
      exact absurd (this ▸ hy) h
  cases a <;> simp only [opIn, e1, e2, e3, Bool.and_self, if_true, Bool.xor_false] <;> simp [okH] at ka
theorem dEqs_eq : ∀ {l m : List D}, okM 8 l → okM 8 m → (dEqs l m = true ↔ l = m)
  | [], [], _, _ => by simp [dEqs]
  | [], _ :: _, _, _ => by simp [dEqs]
  | _ :: _, [], _, _ => by simp [dEqs]
  | x :: xs, y :: ys, h, k => by
    simp only [dEqs, Bool.and_eq_true]
    rw [dEq_iff 8 8 x y (h x List.mem_cons_self) (k y List.mem_cons_self), dEqs_eq (fun z hz => h z (List.mem_cons_of_mem _ hz)) (fun z hz => k z (List.mem_cons_of_mem _ hz))]
    simp
theorem opEq_lst (kl : okM 8 l) (km : okM 8 m) : opEq neg (.lst l) (.lst m) = some (xor neg (dEqs l m)) := by
  have e1 : okDs 59 l = true := okDs_H (okHs_mono l (by decide) (okM_iff.mpr kl))
  have e2 : okDs 59 m = true := okDs_H (okHs_mono m (by decide) (okM_iff.mpr km))
  simp only [opEq, okD, e1, e2, dEq, Bool.and_self, if_true]
theorem opEq_tup (kl : okM 8 l) (km : okM 8 m) : opEq neg (.tup l) (.tup m) = some (xor neg (dEqs l m)) := by
  have e1 : okDs 59 l = true := okDs_H (okHs_mono l (by decide) (okM_iff.mpr kl))
  have e2 : okDs 59 m = true := okDs_H (okHs_mono m (by decide) (okM_iff.mpr km))
  simp only [opEq, okD, e1, e2, dEq, Bool.and_self, if_true]
theorem opEq_H (ka : okH 8 a = true) (kb : okH 8 b = true) : opEq neg a b = some (xor neg (dEq a b)) := by
  simp only [opEq, okD_H (okH_mono a (by decide : 8 ≤ 60) ka), okD_H (okH_mono b (by decide : 8 ≤ 60) kb), Bool.and_self, if_true]
@[simp] theorem opEq_int {i j : Int} : opEq neg (.int i) (.int j) = some (xor neg (i == j)) := by simp [opEq, okD, dEq]
@[simp] theorem opEq_bl {i j : Bool} : opEq neg (.bl i) (.bl j) = some (xor neg (i == j)) := by simp [opEq, okD, dEq]
theorem dEqs_refl (k : okM 8 l) : dEqs l l = true := (dEqs_eq k k).mpr rfl
end
section
variable {M : List (Option Cell)} {j : Nat} {xs : List D}
theorem allS_map {n : Nat} : allS ((xs.map W.d).map (deepV M n)) = some xs := by
  induction xs with
  | nil => rfl
  | cons x r ih => simp only [List.map_cons, deepV_d, allS, ih]; rfl
theorem deepV_loc {n : Nat} (h : M[j]? = some (some (.lst (xs.map .d)))) : deepV M (n + 1) (.loc j) = some (.lst xs) := by
  simp only [deepV, h, allS_map]; rfl
theorem view_loc (h : M[j]? = some (some (.lst (xs.map .d)))) : view M (.loc j) = some (.lst xs) := by
  simp only [view, h, frz_lst, dats_map]; rfl
theorem b1_loc {f : D → Option Res} (h : M[j]? = some (some (.lst (xs.map .d)))) : b1 f M [.loc j] = f (.lst xs) := by
  unfold b1; dsimp only; rw [view_loc h]; rfl
end
/-- a word as data -/
def isW (sg : Str) (x : D) : Prop := ∃ w, x = .str w ∧ Wd sg 8 w ∧ 0 < w.length
theorem strOk_of {sg w : Str} (h : ∀ c ∈ w.cps.toList, c ∈ sg.cps.toList) (k : PyData.strOk sg = true) : PyData.strOk w = true := by
  unfold PyData.strOk at k ⊢
  rw [Array.all_eq_true_iff_forall_mem] at k ⊢
  exact fun x hx => k x (Array.mem_toList_iff.mp (h x (Array.mem_toList_iff.mpr hx)))
theorem isW.okH {sg : Str} {x : D} (k : PyData.strOk sg = true) (h : isW sg x) (n : Nat) : okH n x = true := by
  obtain ⟨w, rfl, W, _⟩ := h
  simp only [Pm.okH]
  exact strOk_of W.sub k
theorem cmp_words {l : List D} (h : ∀ x ∈ l, ∃ w, x = .str w) : cmpAll l = true := by
  unfold cmpAll
  rw [List.all_eq_true]
  intro a ha
  rw [List.all_eq_true]
  intro b hb
  obtain ⟨w, rfl⟩ := h a ha
  obtain ⟨v, rfl⟩ := h b hb
  simp [cmpb]
theorem dSort_ok {l : List D} (k : okM 8 l) (c : cmpAll l = true) (h : l.length ≤ sizeLine) : dSort (.lst l) = some (.new (.lst ((srtD l).map .d))) := by
  have e : okHs 60 l = true := okHs_mono l (by decide) (okM_iff.mpr k)
  simp only [dSort, lstD_lst, Option.bind_some, sortD, e, c, h, decide_true, Bool.and_self, if_true]; rfl
end Pm

set_option maxHeartbeats 2000000
/-! Q28: comprehensions whose turns leave the cells -/
namespace Pm
open PySem L2
section
variable {Q : Res → S → Prop} {st : S} {k : D → S → Option S} {vs : List Nat} {ft : Ev Bool} {fe : Ev W} {fi : Ev (List D)}
/-- T: what the state is like between turns; p: which are told; g: what is told -/
theorem wp_compP (T : S → Prop) (p : D → Bool) (g : D → D) (hi : Wp (fi st) fun ds s0 => T s0 ∧ ds.length ≤ sizeLine ∧
      (∀ d ∈ ds, ∀ s, T s → ∃ s', k d ⟨wipeSl s.sl vs, s.M, s.b⟩ = some s' ∧ Wp (ft s') fun c s2 => c = p d ∧ if c then Wp (fe s2) fun w s3 => w = .d (g d) ∧ T s3 else T s2) ∧
      ∀ s, T s → Q (.new (.lst (((ds.filter p).map g).map .d))) ⟨keepSl s0.sl s.sl vs, s.M, s.b⟩) : Wp (eComp fi k vs ft fe st) Q := by
  obtain ⟨ds, s0, e, h0, hl, step, fin⟩ := hi.get
  refine wp_comp (fun i acc s => T s ∧ acc = (((ds.take i).filter p).map g).map .d) ?_
  rw [e]
  refine ⟨⟨h0, by simp⟩, ?_, ?_⟩
  · rintro i d acc s hd ⟨hs, rfl⟩
    have hm : d ∈ ds := List.mem_of_getElem? hd
    have hi' : i < ds.length := (List.getElem?_eq_some_iff.mp hd).1
    obtain ⟨s', e', w⟩ := step d hm s hs
    refine ⟨s', e', w.mono fun c s2 z => ?_⟩
    have tk : ds.take (i + 1) = ds.take i ++ [d] := by rw [List.take_add_one, hd]; rfl
    cases c with
    | true =>
      rw [if_pos rfl] at z ⊢
      refine z.2.mono fun w s3 y => ⟨?_, y.2, ?_⟩
      · have l1 := List.length_filter_le p (ds.take i)
        have l2 : (ds.take i).length ≤ i := by rw [List.length_take]; omega
        simp only [List.length_map]; omega
      · rw [tk, List.filter_append, y.1]
        have : [d].filter p = [d] := by simp [← z.1]
        rw [this]; simp
    | false =>
      rw [if_neg (by simp)] at z ⊢
      refine ⟨z.2, ?_⟩
      rw [tk, List.filter_append]
      have : [d].filter p = [] := by simp [← z.1]
      rw [this]; simp
  · rintro acc s ⟨hs, rfl⟩
    rw [List.take_of_length_le (Nat.le_refl _)]
    exact fin s hs
end
@[simp] theorem wp_fYes {QB : Bool → S → Prop} {st : S} : Wp (fYes st) QB ↔ QB true st := Iff.rfl
@[simp] theorem wipe_nil {sl : List Sl} : wipeSl sl [] = sl := rfl
@[simp] theorem wipe_cons {sl : List Sl} {v : Nat} {vs : List Nat} : wipeSl sl (v :: vs) = (wipeSl sl vs).set v .no := rfl
@[simp] theorem keep_nil {a b : List Sl} : keepSl a b [] = b := rfl
@[simp] theorem keep_cons {a b : List Sl} {v : Nat} {vs : List Nat} : keepSl a b (v :: vs) = (keepSl a b vs).set v (kept a[v]?) := rfl
@[simp] theorem kept_no : kept (some .no) = .no := rfl
@[simp] theorem kept_d {x : D} : kept (some (.w (.d x))) = .w (.d x) := rfl
@[simp] theorem dats_comp {α : Type} {g : α → D} {l : List α} : dats (List.map (W.d ∘ g) l) = some (l.map g) := by
  rw [← List.map_map, dats_map]
theorem blsD_true {α : Type} {l : List α} : blsD (l.map fun _ => .bl true) = some (l.map fun _ => true) := by
  induction l with
  | nil => rfl
  | cons x r ih => simp only [List.map_cons, blsD, ih]; rfl
theorem dAll_true {α : Type} {l : List α} : dAll (.lst (l.map fun _ => .bl true)) = some (.d (.bl true)) := by
  unfold dAll
  simp [blsD_true]
end Pm

set_option maxHeartbeats 2000000
/-! Q29: texts' methods, ranges by two, a module's tuple, what a call leaves out, list * int -/
namespace Pm
open PySem PyProof.Rows L2 He
section
variable {X : Cx} {G : Cl} {Wx : WX} {tg : Expr} {p pos apos : Pos}
/-! ### x.m(y) of texts -/
def smD (g : Str → Str → Option D) (h : Ev Res) : D → Ev Res
  | .str a => (evD h).bind fun y => match y with
    | .str b => Ev.lift ((g a b).map .d)
    | _ => Ev.fail
  | _ => Ev.fail
def eSm (g : Str → Str → Option D) (f h : Ev Res) : Ev Res := (evD f).bind (smD g h)
def fEnds (a b : Str) : Option D := some (.bl (Txt.endswith a b))
theorem bel_sm {g : Str → Str → Option D} {f h : Ev Res} (bf : Bel f) (bh : Bel h) (hg : ∀ a b x, g a b = some x → True) : Bel (eSm g f h) := (bel_evD bf).bind fun d => by
  cases d with
  | str a =>
    refine (bel_evD bh).bind fun y => ?_
    cases y with
    | str b =>
      show Bel (Ev.lift ((g a b).map Res.d))
      cases e : g a b with
      | none => exact .fail'
      | some x => exact .pure
    | _ => exact .fail'
  | _ => exact .fail'
theorem se_endswith {o e : Expr} {f h : Ev Res} (ho : SE X G Wx o f) (he : SE X G Wx e h) (hs : starEach [e] X.env = [(false, eval e X.env)] := by rfl) (hbase : attributeBase o "endswith" X.env (eval o X.env) = eval o X.env := by rfl) (hline : (apos.endLine == pos.line) = true := by rfl) :
    SE X G Wx (.Call (.Attribute o "endswith" apos) [e] [] pos) (eSm fEnds f h) :=
  ⟨PE_imp (pe_m1 F.slot_str_endswith F.type_str_endswith mt_endswith ho.pe he.pe hs hbase hline) fun σ H Q ⟨R, F, L, st, ok, o⟩ => tE_D ok (OutP.bind (f := evD f) o fun d st1 F1 L1 H1 x1 ok1 o1 v rv => by
    cases d with
    | str a =>
      cases rv
      refine ⟨⟨_, rfl⟩, tE_D ok1 (OutP.bind (f := evD h) o1 fun d2 st2 F2 L2 H2 x2 ok2 o2 v2 rv2 => ?_)⟩
      cases d2 with
      | str b => cases rv2; exact ⟨a, b, rfl, rfl, o2 F2 L2 H2 (.refl _ _) ok2 _ (.bl _)⟩
      | _ => exact o2.elim
    | _ => exact o1.elim), bel_sm ho.bel he.bel fun _ _ _ _ => trivial⟩
/-! ### range(i, j, 2) -/
def rngC (i c : Int) (n : Nat) : List D := (List.range n).map fun (k : Nat) => D.int (i + k * c)
theorem itc_ok {K : PySem.W.Frag} {g : Nat → Addr} {F : Hp} {lo c : Int} {n : Nat} : ItOk K g F (rngC lo c n) (Itc lo c n) := fun i R F' L' M' H' s rel =>
  ⟨fun d hd => by
    unfold rngC at hd
    rw [List.getElem?_map] at hd
    obtain ⟨c', hc, rfl⟩ := Option.map_eq_some_iff.mp hd
    obtain ⟨hi, rfl⟩ := List.getElem?_eq_some_iff.mp hc
    simp only [List.length_range] at hi
    refine ⟨hi, fun x H'' ⟨eH, ex⟩ => ?_⟩
    rw [eH, ex]
    refine ⟨F', .refl _, rel, ?_⟩
    rw [List.getElem_range]
    exact .int _, fun e => by rw [e]; simp [Itc, rngC]⟩
def two (i j : Int) : Nat := if i < j then ((j - i - 1) / 2 + 1).toNat else 0
def iRange3 (fa : Ev (List W)) : Ev (List D) := fa.bind fun ws => Ev.lift (match ws with
  | [.d (.int i), .d (.int j), .d (.int c)] => if smallI i && smallI j && decide (c = 2) then some (rngC i 2 (two i j)) else none
  | _ => none)
theorem rgC_two {i j : Int} (hi : -(2 ^ 62) ≤ i ∧ i < 2 ^ 62) (hj : -(2 ^ 62) ≤ j ∧ j < 2 ^ 62) : RgC i j 2 (two i j) := by
  have e : Builtin.Range.rangeSize i j 2 = (two i j : Nat) := by
    unfold Builtin.Range.rangeSize two
    simp only [show ((2 : Int) > 0) by decide, if_true]
    split <;> omega
  refine ⟨by decide, by decide, ?_, e⟩
  unfold Builtin.Range.small
  rw [e]
  unfold two
  simp only [Builtin.Range.rangeFitsLong, Bool.and_eq_true, Bool.or_eq_true, decide_eq_true_eq, beq_iff_eq, show ((2 : Int) > 0) by decide, if_true]
  split <;> omega
theorem si_range3 {a b c : Expr} {fa : Ev (List W)} (ha : SA X G Wx [a, b, c] fa) (hg : Gl X "range") (hm : X.mg "range" = none) (hs : starEach [a, b, c] X.env = (false, eval a X.env) :: starEach [b, c] X.env := by rfl) (hpl : (backTo pos (starEach [b, c] X.env)).any (·.1) = false := by rfl) :
    SI X G Wx tg (.Call (.Name "range" p) [a, b, c] [] pos) (iRange3 fa) :=
  ⟨PI_imp (pi_range3 hg hm ha.pa hs hpl) fun σ H Q ⟨R, F, L, st, ok, o⟩ => ⟨R, F, L, st, ok, OutP.bind (f := fa) o fun ws st1 F1 L1 H1 x1 ok1 o1 vs rv => by
    obtain ⟨ds, e1, o2⟩ := OutP.lift o1
    have fin := o2 F1 L1 H1 (.refl _ _) ok1
    split at e1
    · split at e1
      · rename_i hs
        cases e1
        simp only [Bool.and_eq_true] at hs
        have h1 := of_decide_eq_true hs.1.1
        have h2 := of_decide_eq_true hs.1.2
        have h3 := of_decide_eq_true hs.2
        subst h3
        cases rv with
        | cons r1 rn => cases rn with
          | cons r2 rn => cases rn with
            | cons r3 rn => cases rn; cases r1; cases r2; cases r3; exact ⟨_, _, _, _, rfl, rgC_two h1 h2, fin _ itc_ok⟩
      · cases e1
    · cases e1⟩, bel_lift ha.bel⟩
/-! ### list * int -/
def opMulL : D → D → Option Res
  | .lst xs, .int k => if -(2 ^ 63) ≤ k ∧ k < 2 ^ 63 ∧ xs.length * k.toNat ≤ sizeLine then some (.new (.lst ((List.replicate k.toNat xs).flatten.map .d))) else none
  | _, _ => none
theorem Reps.rep {K : PySem.W.Frag} {g : Nat → Addr} {F : Hp} {ds : List D} {vs : List V} (r : Reps K g F ds vs) : ∀ n : Nat, Reps K g F (List.replicate n ds).flatten (List.replicate n vs).flatten
  | 0 => .nil
  | n + 1 => by
    rw [List.replicate_succ, List.replicate_succ, List.flatten_cons, List.flatten_cons]
    exact r.append (Reps.rep r n)
theorem or_mulL : OpR X (binaryOp .Mult) (rD X.K G opMulL) := by
  intro pins s σ H x y v u Q I rx ry ⟨R, F, L, M, a, b, r, rel, ra, rb, e, q⟩
  unfold opMulL at e
  split at e
  · split at e
    · rename_i h
      cases e
      obtain ⟨a, vs, rfl, ha, r1⟩ := ra.lst_inv rel.fh
      obtain rfl := rb.int_inv
      refine op_rep pins s σ H _ _ v u Q I rx ry ⟨a, _, vs, rfl, rfl, ha, h.1, h.2.1, by rw [← r1.length]; exact h.2.2, fun p hp => ?_⟩
      obtain ⟨h1, h2⟩ := rel.newLst (G := G) hp (r1.rep _).toW
      exact q _ F _ (.refl _) h1 h2
    · cases e
  · cases e
end
/-! ### a module's tuple -/
def valB : D → Value → Bool
  | .str x, .str y _ => decide (x = y)
  | .int i, .int j _ => decide (i = j)
  | _, _ => false
def valsB : List D → List Value → Bool
  | [], [] => true
  | d :: ds, v :: vs => valB d v && valsB ds vs
  | _, _ => false
def isTupV : Value → Bool
  | .type n => n == "tuple"
  | _ => false
def tupAtB (K : PySem.W.Frag) (a : Addr) (ds : List D) : Bool := match K.lookup a with
  | some o => isTupV o.cls && (match o.data with
    | .seq its _ => decide (its.size ≤ sizeLine) && valsB ds its.toList
    | _ => false)
  | none => false
theorem valsB_ok {K : PySem.W.Frag} : ∀ {ds : List D} {us : List Value}, valsB ds us = true → ∃ vs, Vals vs us ∧ ∀ g F, Reps K g F ds vs
  | [], [], _ => ⟨[], .nil, fun _ _ => .nil⟩
  | d :: ds, v :: us, h => by
    simp only [valsB, Bool.and_eq_true] at h
    obtain ⟨vs, r, q⟩ := valsB_ok (K := K) h.2
    cases d <;> cases v <;> simp only [valB, Bool.false_eq_true, false_and] at h <;> (try exact h.1.elim)
    · have e := of_decide_eq_true h.1
      subst e
      exact ⟨V.int _ :: vs, .cons (show L2.RelV (V.int _) _ from ⟨_, rfl⟩) r, fun g F => .cons (.int _) (q g F)⟩
    · have e := of_decide_eq_true h.1
      subst e
      exact ⟨V.str _ :: vs, .cons (show L2.RelV (V.str _) _ from ⟨_, rfl⟩) r, fun g F => .cons (.str _) (q g F)⟩
  | [], _ :: _, h => by simp [valsB] at h
  | _ :: _, [], h => by simp [valsB] at h
theorem tupAtB_ok {K : PySem.W.Frag} {a : Addr} {ds : List D} (h : tupAtB K a ds = true) (g : Nat → Addr) (F : Hp) : Rep K g F (.tup ds) (.ref a) := by
  unfold tupAtB at h
  split at h
  · rename_i o lo
    simp only [Bool.and_eq_true] at h
    obtain ⟨h1, h2⟩ := h
    split at h2
    · rename_i its n ed
      simp only [Bool.and_eq_true] at h2
      obtain ⟨h3, h4⟩ := h2
      obtain ⟨vs, rv, rs⟩ := valsB_ok (K := K) h4
      have ec : o.cls = .type "tuple" := by
        unfold isTupV at h1
        split at h1
        · rename_i n e; rw [e]; exact congrArg _ (beq_iff_eq.mp h1)
        · cases h1
      exact .tup (.inr ⟨o, its, n, lo, ec, ed, of_decide_eq_true h3, rv⟩) (rs g F)
    · cases h2
  · cases h
def gtB (K : PySem.W.Frag) (x : Str) (ds : List D) : Bool := match PySem.W.nsIn K mainGlobals x with
  | some (some (.ref a)) => tupAtB K a ds
  | _ => false
def GTup (K : PySem.W.Frag) (mg : Str → Option Value) (x : Str) (ds : List D) : Prop := ∃ a, mg x = some (.ref a) ∧ ∀ g F, Rep K g F (.tup ds) (.ref a)
theorem gtB_ok {K : PySem.W.Frag} {h : Heap} {mg : Str → Option Value} {x : Str} {ds : List D} (X : K.In h) (G : h.Ns mainGlobals mg) (c : gtB K x ds = true) : GTup K mg x ds := by
  unfold gtB at c
  split at c
  · rename_i a e
    exact ⟨a, PySem.W.mg_of X G e, tupAtB_ok c⟩
  · cases c
theorem se_gtup {X : Cx} {G : Cl} {Wx : WX} {x : Str} {ds : List D} {pos : Pos} (T : GTup X.K X.mg x ds) (hg : Gl X x) (hd : (x == ("__debug__" : Str)) = false := by decide) : SE X G Wx (.Name x pos) (eC (.tup ds)) :=
  let ⟨a, hm, h⟩ := T
  se_glob (v := .ref a) hg hm rfl (h G.at_) hd
/-! ### keyword-only parameters that a call leaves out -/
/-- the default of the keyword-only parameter x of the def at f, if it is an object -/
def kwAt (f : Str × Option Str) (x : Str) (K : PySem.W.Frag) : Addr := match K.lookup (fAd K f) with
  | some ⟨_, _, .func fd, _⟩ => (match fd.kwdefaults with
    | .ref T => (match PySem.W.nsIn K T x with
      | some (some (.ref a)) => a
      | _ => 0)
    | _ => 0)
  | _ => 0
theorem bd_kd {K : PySem.W.Frag} {g : Nat → Addr} {x qual : Str} {params : Arguments} {body : List Stmt} {scope : Scope} {kws : List (Str × V)} {f : Addr} {fd : FuncData} {ps ks : List Str} {n : Nat} (F : FunD K x qual params body scope [] kws f fd) (hk : kws ≠ []) (ms : List (Str × V)) (dw : List W)
    (hd : ∀ F L, RepWs K g F L dw (ms.map (·.2))) (hms : ∀ q ∈ ms, q ∈ kws)
    (h : ∀ (D : Addr) (doc pm : Value) (an : Option Addr) (cdv ct : Value) (us mv ws : List Value), us.length = n → mv.length = ms.length → ws.length = ks.length →
      KwChain D ((ms.map (·.1)).zip mv) (bindArgs (PySem.W.fnOf x qual params body scope .none (.ref D) doc pm an cdv ct) ⟨us, ks.zip ws⟩) (ps.zip (us ++ (mv ++ ws)))) : Bd K g fd ps n ks (fun us ws => us ++ (dw ++ ws)) := by
  obtain ⟨oc, od, dV, kV, doc, pm, an, cdv, ct, osl, rfl, lk, hcd, hD, hK⟩ := F.ex
  rcases hD with ⟨_, rfl⟩ | ⟨e, _⟩
  · rcases hK with e | ⟨D, rfl, hq⟩
    · exact absurd e hk
    · obtain ⟨mv, hl, rk, hks⟩ := kwd_vals (ms := ms) fun q hm => hq q (hms q hm)
      refine ⟨fun us ws => us ++ (mv ++ ws), fun vs zs => vs ++ (ms.map (·.2) ++ zs), ⟨fun s us ws X l1 l2 => ?_, fun r1 r2 => r1.append (rk.append r2)⟩, fun F L ws us vs zs r1 r2 => r1.append ((hd F L).append r2)⟩
      exact BindsTo.of_looks fun M => KwChain.looks X hks (h D doc pm an cdv ct us mv ws l1 hl l2)
  · exact absurd rfl e
/-! ### plain reasoning -/
section
variable {Q : Res → S → Prop} {QL : List D → S → Prop} {st : S} {f h : Ev Res} {fa : Ev (List W)}
@[simp] theorem wp_sm {g : Str → Str → Option D} : Wp (eSm g f h st) Q ↔ Wp (evD f st) fun x s => ∃ a, x = .str a ∧ Wp (evD h s) fun y s' => ∃ b, y = .str b ∧ ∃ r, g a b = some r ∧ Q (.d r) s' := by
  unfold eSm; rw [wp_bind]
  constructor <;> intro hh <;> refine hh.mono fun x s z => ?_
  · cases x <;> first | exact z.elim | skip
    rename_i a
    refine ⟨a, rfl, ?_⟩
    unfold smD at z
    rw [wp_bind] at z
    refine z.mono fun y s' z => ?_
    cases y <;> first | exact z.elim | skip
    rename_i b
    refine ⟨b, rfl, ?_⟩
    obtain ⟨r, e, z⟩ := wp_lift.mp z
    obtain ⟨d, e2, rfl⟩ := Option.map_eq_some_iff.mp e
    exact ⟨d, e2, z⟩
  · obtain ⟨a, rfl, z⟩ := z
    unfold smD
    rw [wp_bind]
    refine z.mono fun y s' z => ?_
    obtain ⟨b, rfl, r, e, z⟩ := z
    exact wp_lift.mpr ⟨_, by rw [e]; rfl, z⟩
@[simp] theorem wp_range3' : Wp (iRange3 fa st) QL ↔ Wp (fa st) fun ws s => ∃ i, ws[0]? = some (.d (.int i)) ∧ ∃ j, ws[1]? = some (.d (.int j)) ∧ ws[2]? = some (.d (.int 2)) ∧ ws.length = 3 ∧ (smallI i = true ∧ smallI j = true) ∧ QL (rngC i 2 (two i j)) s := by
  unfold iRange3; rw [wp_bind]
  constructor <;> intro hh <;> refine hh.mono fun ws s z => ?_
  · obtain ⟨a, e, z⟩ := wp_lift.mp z
    split at e
    · split at e
      · rename_i hh'
        simp only [Bool.and_eq_true] at hh'
        have h3 := of_decide_eq_true hh'.2
        subst h3
        cases e; exact ⟨_, rfl, _, rfl, rfl, rfl, hh'.1, z⟩
      · cases e
    · cases e
  · obtain ⟨i, e1, j, e2, e3, e4, hj, z⟩ := z
    match ws, e1, e2, e3, e4 with
    | [a, b, c], e1, e2, e3, _ =>
      obtain rfl : a = _ := Option.some.inj e1
      obtain rfl : b = _ := Option.some.inj e2
      obtain rfl : c = _ := Option.some.inj e3
      exact wp_lift.mpr ⟨_, (if_pos (by rw [hj.1, hj.2]; rfl)), z⟩
@[simp] theorem fEnds_eq {a b : Str} : fEnds a b = some (.bl (Txt.endswith a b)) := rfl
@[simp] theorem rngC_len {lo c : Int} {n : Nat} : (rngC lo c n).length = n := by simp [rngC]
theorem rngC_get {lo c : Int} {n j : Nat} {d : D} (h : (rngC lo c n)[j]? = some d) : d = .int (lo + j * c) ∧ j < n := by
  unfold rngC at h
  rw [List.getElem?_map] at h
  obtain ⟨k, hc, rfl⟩ := Option.map_eq_some_iff.mp h
  obtain ⟨h1, rfl⟩ := List.getElem?_eq_some_iff.mp hc
  simp only [List.length_range] at h1
  exact ⟨by rw [List.getElem_range], h1⟩
end
end Pm

set_option maxHeartbeats 2000000
/-! Q30: name = [..], three names at once -/
namespace Pm
open PySem PyProof.Rows L2 He
section
variable {X : Cx} {G : Cl} {Wx : WX} {pos : Pos} {fi : Ev (List D)} {k : D → S → Option S} {vs0 : List Nat} {ft : Ev Bool} {fe : Ev Res} {hf : Ev W}
theorem ss_setLc {elt tg iter : Expr} {ifs : List Expr} {scope : Scope} {own : List (Str × Nat)} {cpos py : Pos} {y : Str} {i : Nat} {h : Ev W} (hN : X.N.Nodup) (hwA : AsW (eComp fi k (own.map (·.2)) ft hf) h) (hi : SI X G Wx tg iter fi) (bok : BlkOk X.N X.env.scope scope own)
    (hg : ∀ (s : Shared) (H : Hp) (C : Addr) (cl : List (Str × Addr)) (fp : List Addr), SG (X.blk s H scope (compEnvC scope cl C X.env) fp) G tg k vs0) (hv : ∀ i ∈ vs0, i ∈ own.map (·.2))
    (ht : ∀ (s : Shared) (H : Hp) (C : Addr) (cl : List (Str × Addr)) (fp : List Addr), STs (X.blk s H scope (compEnvC scope cl C X.env) fp) G WF ifs ft) (hw : AsW fe hf)
    (he : ∀ (s : Shared) (H : Hp) (C : Addr) (cl : List (Str × Addr)) (fp : List Addr), SE (X.blk s H scope (compEnvC scope cl C X.env) fp) G WF elt fe)
    (hc : X.calm = true := by rfl) (hy : X.N[i]? = some y := by rfl) (hyl : X.env.scope.names.lookup y = some .local := by rfl)
    (hsw : swapsWith (.ListComp elt [⟨tg, iter, ifs, 0⟩] scope cpos) (some (.Name y py)) pos.line X.env = pure true := by rfl)
    (hs : ∀ x, foldedSetIterable iter X.env x = pure x := by intro _; rfl) : SS X G Wx (.Assign [.Name y py] (.ListComp elt [⟨tg, iter, ifs, 0⟩] scope cpos) pos) (fSet i h) :=
  ⟨PS_imp (ps_setLc hc hN hy hyl hsw hi.pi bok (fun s H C cl fp => (hg s H C cl fp).pg) (fun s H C cl fp => (ht s H C cl fp).pts) (fun s H C cl fp => (he s H C cl fp).pe) hs) fun D σ H ⟨R, F, L, st, ok, o⟩ =>
     tLc_of hv hw (tE_of ok (hwA.out (OutS.bind (f := h) o fun w st1 F1 L1 H1 x1 ok1 o1 v rv => o1 _ F1 L1 H1 (.refl _ _) (ok1.setSl i rv)))),
   (hwA.bel (bel_comp hi.bel (fun d st st' => (hg X.s_0 X.H_0 0 [] []).bel d st st') (bel_compIf (ht X.s_0 X.H_0 0 [] []).bel (bel_tell (hw.bel (he X.s_0 X.H_0 0 [] []).bel))))).bind fun w => fun st o st' _ e => by cases e; exact .refl _⟩
def fPar3 (i j l : Nat) (fa : Ev (List W)) : Ev Fl := fa.bind fun ws => fun st => match ws with
  | [u, v, w] => some (.ok .nx, ⟨((st.sl.set i (.w u)).set j (.w v)).set l (.w w), st.M, st.b⟩)
  | _ => none
theorem ss_par3 {i j l : Nat} {x y z : Str} {a b c : Expr} {fa : Ev (List W)} {px py pz pt : Pos} {kt k2 : Nat} {pt2 : Pos} (hN : X.N.Nodup) (ha : SA X G Wx [a, b, c] fa) (hi : X.N[i]? = some x := by rfl) (hj : X.N[j]? = some y := by rfl) (hl : X.N[l]? = some z := by rfl) (hij : i ≠ j := by decide) (hil : i ≠ l := by decide) (hjl : j ≠ l := by decide)
    (hx : X.env.scope.names.lookup x = some .local := by rfl) (hy : X.env.scope.names.lookup y = some .local := by rfl) (hz : X.env.scope.names.lookup z = some .local := by rfl)
    (hw : swappedStores [.Tuple [.Name x px, .Name y py, .Name z pz] kt pt] (.Tuple [a, b, c] k2 pt2) X.env = pure (some [x, y, z]) := by rfl)
    (hs : swapsWithSole [.Tuple [.Name x px, .Name y py, .Name z pz] kt pt] (.Tuple [a, b, c] k2 pt2) pos.line X.env = pure false := by rfl) (hc : X.calm = true := by rfl) :
    SS X G Wx (.Assign [.Tuple [.Name x px, .Name y py, .Name z pz] kt pt] (.Tuple [a, b, c] k2 pt2) pos) (fPar3 i j l fa) :=
  ⟨PS_imp (ps_par3 hc hN hi hj hl hij hil hjl hx hy hz ha.pa hw hs) fun D σ H ⟨R, F, L, st, ok, o⟩ => by
    refine ⟨R, F, L, st, ok, OutS.bind (f := fa) o fun ws st1 F1 L1 H1 x1 ok1 o1 vs rvs => ?_⟩
    split at o1
    · cases rvs with
      | cons r1 rn => cases rn with
        | cons r2 rn => cases rn with
          | cons r3 rn =>
            cases rn
            exact ⟨_, _, _, rfl, o1 _ F1 L1 H1 (.refl _ _) (((ok1.setSl i r1).setSl j r2).setSl l r3)⟩
    · exact o1.elim, ha.bel.bind fun ws => fun st o st' _ e => by
    split at e
    · cases e; exact .refl _
    · cases e⟩
end
section
variable {QF : Fl → S → Prop} {st : S} {fa : Ev (List W)}
@[simp] theorem wp_par3 {i j l : Nat} : Wp (fPar3 i j l fa st) QF ↔ Wp (fa st) fun ws s => ∃ u, ws[0]? = some u ∧ ∃ v, ws[1]? = some v ∧ ∃ w, ws[2]? = some w ∧ ws.length = 3 ∧ QF .nx ⟨((s.sl.set i (.w u)).set j (.w v)).set l (.w w), s.M, s.b⟩ := by
  unfold fPar3; rw [wp_bind]
  constructor <;> intro hh <;> refine hh.mono fun ws s z => ?_
  · split at z
    · exact ⟨_, rfl, _, rfl, _, rfl, rfl, z⟩
    · exact z.elim
  · obtain ⟨u, e1, v, e2, w, e3, e4, z⟩ := z
    match ws, e1, e2, e3, e4 with
    | [a, b, c], rfl, rfl, rfl, _ => exact z
end
end Pm

set_option maxHeartbeats 2000000
/-! Q31: {key: True for ..} with text keys; e in such a dict -/
namespace Pm
open PySem PyProof.Rows L2 He
/-- the texts as keys -/
def kvT (ks : List Str) : List (Key × V) := ks.map fun k => (Sum.inr k, V.bl true)
def accK (ks : List Str) : List W := ks.map fun k => W.d (.str k)
def addK (ks : List Str) (z : Str) : List Str := if ks.any (fun y => decide (y = z)) then ks else ks ++ [z]
theorem putK_T {ks : List Str} {z : Str} : putK (kvT ks) (Sum.inr z) (V.bl true) = kvT (addK ks z) := by
  have e : ((kvT ks).any fun kv => decide (kv.1 = Sum.inr z)) = ks.any fun y => decide (y = z) := by
    unfold kvT
    rw [List.any_map]
    congr 1
    funext y
    simp
  unfold putK addK
  rw [e]
  cases h : ks.any (fun y => decide (y = z)) with
  | true =>
    simp only [if_true]
    unfold kvT
    rw [List.map_map]
    refine List.map_congr_left fun k _ => ?_
    simp only [Function.comp]
    split
    · rename_i q; rw [q]
    · rfl
  | false => simp [kvT]
theorem valV_T {ks : List Str} {z : Str} : (valV (kvT ks) (Sum.inr z)).isSome = ks.any fun y => decide (y = z) := by
  unfold valV kvT
  rw [Option.isSome_map, List.find?_map, Option.isSome_map]
  induction ks with
  | nil => rfl
  | cons y r ih =>
    rw [List.find?_cons, List.any_cons]
    by_cases h : y = z
    · simp [h]
    · have h1 : (((fun kv : Key × V => decide (kv.1 = Sum.inr z)) ∘ fun k : Str => ((Sum.inr k : Key), V.bl true)) y) = false := by simp [h]
      rw [h1]
      simp only [decide_eq_false h, Bool.false_or]
      exact ih
def strsW : List W → Option (List Str)
  | [] => some []
  | .d (.str z) :: r => (strsW r).map (z :: ·)
  | _ :: _ => none
theorem strsW_acc : ∀ ks : List Str, strsW (accK ks) = some ks
  | [] => rfl
  | z :: r => by
    have := strsW_acc r
    unfold accK at this ⊢
    simp only [List.map_cons, strsW, this]; rfl
def tellK (fe : Ev W) (acc : List W) : Ev (List W) := fun st => match fe st with
  | some (.ok (.d (.str z)), st1) => match strsW acc with
    | some ks => if ks.length < sizeLine then some (.ok (accK (addK ks z)), st1) else none
    | none => none
  | _ => none
def dcFin (st : S) (vs : List Nat) : Option (Out (List W) × S) → Option (Out Res × S)
  | some (.ok ws, st') => match strsW ws with
    | some ks => some (.ok (.d (.dk ks)), ⟨keepSl st.sl st'.sl vs, st'.M, st'.b⟩)
    | none => none
  | _ => none
def eDc (fi : Ev (List D)) (k : D → S → Option S) (vs : List Nat) (fe : Ev W) : Ev Res := fi.bind fun ds => fun st => dcFin st vs (compGo k vs (tellK fe) [] ds st)
theorem bel_tellK {fe : Ev W} (h : Bel fe) (acc : List W) : Bel (tellK fe acc) := fun st o st' hb e => by
  unfold tellK at e
  split at e
  · rename_i z st1 e1
    split at e
    · split at e
      · cases e; exact h _ _ _ hb e1
      · cases e
    · cases e
  · cases e
theorem bel_dc {fi : Ev (List D)} {k : D → S → Option S} {vs : List Nat} {fe : Ev W} (hi : Bel fi) (hk : ∀ d st st', st.b ≤ st.M.length → k d st = some st' → Le st st') (he : Bel fe) : Bel (eDc fi k vs fe) := hi.bind fun ds => fun st o st' hb e => by
  unfold dcFin at e
  split at e
  · rename_i ws st1 e1
    split at e
    · cases e
      exact (show Le st st1 from bel_compGo hk (bel_tellK he) ds [] _ _ _ hb e1)
    · cases e
  · cases e
theorem Rel.freeze {K : PySem.W.Frag} {g : Nat → Addr} {R F H : Hp} {L : List Addr} {M : List (Option Cell)} {D : Addr} {o : HO} (rel : Rel K g (upd R D o) F L M H) (hR : R D = none) : Sub F (upd F D o) ∧ Rel K g R (upd F D o) L M H := by
  have fD : F D = none := rel.fr D o upd_same
  have hD : H D = some o := rel.rh D o upd_same
  have sF : Sub F (upd F D o) := Sub.new fD
  have sub : Sub R (upd R D o) := fun a u e => by rw [upd_ne (ne_of_none e hR)]; exact e
  have rn : ∀ {a}, upd R D o a = none → a ≠ D ∧ R a = none := fun {a} h => by
    by_cases z : a = D
    · subst z; rw [upd_same] at h; cases h
    · rw [upd_ne z] at h; exact ⟨z, h⟩
  refine ⟨sF, fun a u e => ?_, fun a u e => rel.rh a u (sub a u e), fun a u e => ?_, rel.il, fun i c e => ?_, rel.nd⟩
  · by_cases h : a = D
    · subst h; rw [upd_same] at e; cases e; exact hD
    · rw [upd_ne h] at e; exact rel.fh a u e
  · rw [upd_ne (ne_of_none e hR)]; exact rel.fr a u (sub a u e)
  · obtain ⟨a, ha, r⟩ := rel.ce i c e
    refine ⟨a, ha, ?_⟩
    cases c with
    | lst ws =>
      obtain ⟨f0, r0, vs, hv, q⟩ := r
      obtain ⟨h1, h2⟩ := rn r0
      exact ⟨by rw [upd_ne h1]; exact f0, h2, vs, hv, q.ext (.frz sF)⟩
    | ins c fs =>
      obtain ⟨f0, r0, dx, vs, hv, ho, f1, r1, q⟩ := r
      obtain ⟨h1, h2⟩ := rn r0
      obtain ⟨h3, h4⟩ := rn r1
      exact ⟨by rw [upd_ne h1]; exact f0, h2, dx, vs, hv, ho, by rw [upd_ne h3]; exact f1, h4, q.ext (.frz sF)⟩
section
variable {K : PySem.W.Frag} {G : Cl} {Wx : WX} {fi : Ev (List D)} {k : D → S → Option S} {vs vs0 : List Nat} {fe : Ev Res} {hf : Ev W} {σ : L2.St} {H : Hp} {Q : VK}
theorem dc_no {R F : Hp} {L : List Addr} {st1 : S} {r : List D} {x : Option (Out (List W) × S)} (h : ∀ a s, x ≠ some (.ok a, s)) : ¬ OutE K G Wx R F L σ Q (dcFin st1 vs (nextGo k vs (tellK hf) r x)) := fun o => by
  rw [next_no h] at o
  exact o
theorem tDc_of (hv : ∀ i ∈ vs0, i ∈ vs) (hw : AsW fe hf) (t : tE K G Wx (eDc fi k vs hf) σ H Q) : tDc (tI K G Wx fi) (tG K G k vs0) (tT K G WF fYes) (tE K G WF fe) (tE K G WF (eC (.bl true))) vs σ H Q := by
  obtain ⟨R, F, L, st, ok0, o⟩ := t
  refine ⟨R, F, L, st, ok0, OutP.bind (f := fi) o fun ds st1 F1 L1 H1 x1 ok1 o1 J itok D hD => ?_⟩
  have hR : R D = none := ok1.rel.rh.none hD
  refine ⟨fun i m H => m = ds.length - i ∧ i ≤ ds.length ∧ ∃ F' L' st' σ' ks, Ext F1 F' L1 L' ∧ Ok K G (upd R D (.dK (kvT ks))) F' L' st' σ' H ∧ Tch vs σ σ' ∧
    OutE K G Wx R F' L' σ Q (dcFin st1 vs (compGo k vs (tellK hf) (accK ks) (ds.drop i) st')), ⟨_, rfl, Nat.zero_le _, F1, L1, st1, σ, [], .refl _ _, ok1.re (ok1.rel.hold hD), .refl _ _, o1⟩, ?_⟩
  rintro i m H2 ⟨rfl, hil, F2, L2, st2, σ2, ks, x2, ok2, t2, o2⟩
  obtain ⟨hgo, hstop⟩ := itok i _ F2 L2 st2.M H2 x2.f ok2.rel
  rcases Nat.lt_or_ge i ds.length with h | h
  · right
    have e : ds[i]? = some ds[i] := List.getElem?_eq_getElem h
    obtain ⟨g1, g2⟩ := hgo _ e
    refine ⟨g1, fun H => ∃ m', m' < ds.length - i ∧ m' = ds.length - (i + 1) ∧ i + 1 ≤ ds.length ∧ ∃ F' L' st' σ' ks, Ext F1 F' L1 L' ∧ Ok K G (upd R D (.dK (kvT ks))) F' L' st' σ' H ∧ Tch vs σ σ' ∧
      OutE K G Wx R F' L' σ Q (dcFin st1 vs (compGo k vs (tellK hf) (accK ks) (ds.drop (i + 1)) st')), fun H' ⟨m', a1, a2, a3, a4⟩ => ⟨m', a1, a2, a3, a4⟩, fun x H3 hy => ?_⟩
    obtain ⟨F3, s3, rel3, r3⟩ := g2 x H3 hy
    rw [List.drop_eq_getElem_cons h] at o2
    have ok3 := (ok2.with s3 rel3).wipe vs
    rw [t2.wipe fun _ z => z] at ok3
    cases ek : k ds[i] ⟨wipeSl st2.sl vs, st2.M, st2.b⟩ with
    | none => rw [compGo_no ek] at o2; exact o2.elim
    | some st4 =>
      rw [compGo_cons ek] at o2
      refine ⟨_, F3, L2, _, ds[i], st4, ok3, r3, ek, fun σ4 F4 H4 s4 t4 ok4 => ?_⟩
      have tc : Tch vs σ σ4 := t4.after hv
      refine ⟨tc.wipe fun _ z => z, _, F4, L2, st4, ok4, ?_⟩
      intro F5 L5 H5 x5 ok5
      have x25 : Ext F2 F5 L2 L5 := (Ext.frz (s3.trans s4)).trans x5
      (first | rw [if_pos rfl] | (dsimp only; rw [if_pos rfl]))
      refine tE_of ok5 (hw.out ?_)
      have hn : ∀ {x}, (∀ a s, x ≠ some (.ok a, s)) → ¬ OutE K G Wx R F2 L2 σ Q (dcFin st1 vs (nextGo k vs (tellK hf) (ds.drop (i + 1)) x)) := fun h => dc_no h
      generalize hP : tellK hf (accK ks) st4 = res at o2
      unfold tellK at hP
      cases ew : hf st4 with
      | none => rw [ew] at hP; subst hP; exact (hn (by intro a s z; cases z) o2).elim
      | some p =>
        obtain ⟨ow, st6⟩ := p
        rw [ew] at hP
        cases ow with
        | exc z => subst hP; exact (hn (by intro a s z; cases z) o2).elim
        | ok w =>
          cases w with
          | loc j => subst hP; exact (hn (by intro a s z; cases z) o2).elim
          | d y =>
            cases y <;> first | (subst hP; exact (hn (by intro a s z; cases z) o2).elim) | skip
            rename_i z
            rw [strsW_acc] at hP
            dsimp only at hP
            split at hP
            · rename_i hl
              intro F6 L6 H6 x6 ok6 v rv
              cases rv
              refine tE_of ok6 ?_
              intro F7 L7 H7 x7 ok7 v2 rv2
              cases rv2
              have hd := ok7.rel.rh D _ upd_same
              refine ⟨kvT ks, Sum.inr z, rfl, hd, by simpa [kvT] using hl, ?_⟩
              rw [putK_T]
              subst hP
              have x27 : Ext F2 F7 L2 L7 := (x25.trans x6).trans x7
              exact ⟨_, by omega, rfl, by omega, F7, L7, st6, σ4, addK ks z, x2.trans x27, ok7.re ok7.rel.reheld, tc, OutP.ext x27 o2⟩
            · subst hP; exact (hn (by intro a s z; cases z) o2).elim
  · left
    have e : i = ds.length := by omega
    refine ⟨hstop e, ?_⟩
    rw [List.drop_eq_nil_of_le h] at o2
    obtain ⟨sF, rel'⟩ := ok2.rel.freeze hR
    have ok3 : Ok K G R (upd F2 D (.dK (kvT ks))) L2 st2 σ2 H2 := ⟨rel', ok2.len, fun i x e => (ok2.sl i x e).ext (.frz sF)⟩
    have o3 : OutE K G Wx R F2 L2 σ Q (some (.ok (.d (.dk ks)), ⟨keepSl st1.sl st2.sl vs, st2.M, st2.b⟩)) := by
      have e : compGo k vs (tellK hf) (accK ks) [] st2 = some (.ok (accK ks), st2) := rfl
      rw [e] at o2
      simpa only [dcFin, strsW_acc] using o2
    exact o3 _ L2 H2 (.frz sF) (ok1.keep (x2.trans (.frz sF)) ok3 t2) _ (.dk upd_same)
end
section
variable {X : Cx} {G : Cl} {Wx : WX} {fi : Ev (List D)} {k : D → S → Option S} {vs0 : List Nat} {fe : Ev Res} {hf : Ev W}
variable {kx tg iter : Expr} {scope : Scope} {own : List (Str × Nat)} {pos tp : Pos} {j : Nat}
theorem se_dc (hc : X.calm = true) (hN : X.N.Nodup) (hi : SI X G Wx tg iter fi) (bok : BlkOk X.N X.env.scope scope own)
    (hg : ∀ (s : Shared) (H : Hp) (C : Addr) (cl : List (Str × Addr)) (fp : List Addr), SG (X.blk s H scope (compEnvC scope cl C X.env) fp) G tg k vs0) (hv : ∀ i ∈ vs0, i ∈ own.map (·.2)) (hw : AsW fe hf)
    (he : ∀ (s : Shared) (H : Hp) (C : Addr) (cl : List (Str × Addr)) (fp : List Addr), SE (X.blk s H scope (compEnvC scope cl C X.env) fp) G WF kx fe)
    (hs : ∀ x, foldedSetIterable iter X.env x = pure x := by intro _; rfl) : SE X G Wx (.DictComp kx (.Constant (.bool true) j tp) [⟨tg, iter, [], 0⟩] scope pos) (eDc fi k (own.map (·.2)) hf) :=
  ⟨PE_imp (pe_dc hc hN hi.pi bok (fun s H C cl fp => (hg s H C cl fp).pg) (fun s H C cl fp => (sts_nil (Wx := WF) (G := G)).pts) (fun s H C cl fp => (he s H C cl fp).pe) (fun s H C cl fp => (se_bl (Wx := WF) (G := G)).pe) hs) fun σ H Q t => tDc_of hv hw t,
   bel_dc hi.bel (fun d st st' => (hg X.s_0 X.H_0 0 [] []).bel d st st') (hw.bel (he X.s_0 X.H_0 0 [] []).bel)⟩
theorem u2 {k : Nat} {A : Around} (hr : Room k A) : A.units + 1 < cLine := by have := hr.un; omega
/-- e in d -/
def inDk : D → D → Option Bool
  | .str z, .dk ks => some (ks.any fun y => decide (y = z))
  | _, _ => none
def eInDk (f h : Ev Res) : Ev Bool := (evD f).bind fun x => (evD h).bind fun y => Ev.lift (inDk x y)
theorem st_inDk {a b : Expr} {f h : Ev Res} {cpos : Pos} (hu : X.A.units + 1 < cLine) (ha : SE X G Wx a f) (hb : SE X G Wx b h)
    (hm : behindInMarks .In b = false := by first | exact nomark _ | rfl) : ST X G Wx (.Compare a [.In] [b] cpos) (eInDk f h) :=
  ⟨PT_imp (pt_cmp (pc_din hu ha.pe hb.pe) hm) fun σ H Q ⟨R, F, L, st, ok, o⟩ => tE_D ok (OutP.bind (f := evD f) o fun x st1 F1 L1 H1 x1 ok1 o1 v rv => tE_D ok1 (OutP.bind (f := evD h) o1 fun y st2 F2 L2 H2 x2 ok2 o2 v2 rv2 => by
    obtain ⟨r, e, o3⟩ := OutP.lift o2
    unfold inDk at e
    split at e
    · cases e
      cases rv
      cases rv2
      rename_i ks a hF
      refine ⟨a, _, rfl, DGet.k (k := Sum.inr _) (ok2.rel.fh _ _ hF), ?_⟩
      have := o3 F2 L2 H2 (.refl _ _) ok2
      have e2 := fun z => valV_T (ks := ks) (z := z)
      unfold kvT at e2
      rw [e2]
      exact ⟨_, rfl, this⟩
    · cases e)), (bel_evD ha.bel).bind fun x => (bel_evD hb.bel).bind fun y => .same fun st o st' e => by
      unfold Ev.lift at e; split at e <;> cases e; rfl⟩
end
end Pm

set_option maxHeartbeats 2000000
/-! Q32: two names at once, one of them captured: by a tuple -/
namespace Pm
open PySem PyProof.Rows L2 He
section
variable {X : Cx} {G : Cl} {Wx : WX} {pos : Pos}
theorem ss_parT {i j : Nat} {x y : Str} {a b : Expr} {fa : Ev (List W)} {px py pt : Pos} {kt k2 : Nat} {pt2 : Pos} (hN : X.N.Nodup) (ha : SA X G Wx [a, b] fa) (hi : X.N[i]? = some x := by rfl) (hj : X.N[j]? = some y := by rfl) (hij : i ≠ j := by decide)
    (hx : Loc X.env.scope x := by first | exact Or.inl rfl | exact Or.inr rfl) (hy : Loc X.env.scope y := by first | exact Or.inl rfl | exact Or.inr rfl)
    (hf : X.fn x = true ∨ X.env.scope.names.lookup x = some .local := by first | exact .inl rfl | exact .inr rfl | assumption) (hf2 : X.fn y = true ∨ X.env.scope.names.lookup y = some .local := by first | exact .inl rfl | exact .inr rfl | assumption)
    (hw : swappedStores [.Tuple [.Name x px, .Name y py] kt pt] (.Tuple [a, b] k2 pt2) X.env = pure none := by rfl)
    (hs : swapsWithSole [.Tuple [.Name x px, .Name y py] kt pt] (.Tuple [a, b] k2 pt2) pos.line X.env = pure false := by rfl)
    (hn : (assignEach [.Name x px, .Name y py] X.env).length = 2 := by rfl) (hst : (assignEach [.Name x px, .Name y py] X.env).findIdx? (·.1) = none := by rfl)
    (h1 : (assignEach [.Tuple [.Name x px, .Name y py] kt pt] X.env).map (·.2) = [assign (.Tuple [.Name x px, .Name y py] kt pt) X.env] := by rfl) (hc : X.calm = true := by rfl) :
    SS X G Wx (.Assign [.Tuple [.Name x px, .Name y py] kt pt] (.Tuple [a, b] k2 pt2) pos) (fPar i j fa) :=
  ⟨PS_imp (ps_asg (pe_tup ha.pa) (pg_tup hc (pgs_cons (pg_name hN hi hx hf) (pgs_cons (pg_name hN hj hy hf2) pgs_nil)) hn hst) hs hw h1) fun D σ H ⟨R, F, L, st, ok, o⟩ => by
    refine ⟨R, F, L, st, ok, OutS.bind (f := fa) o fun ws st1 F1 L1 H1 x1 ok1 o1 vs rvs => ?_⟩
    split at o1
    · cases rvs with
      | cons r1 rn => cases rn with
        | cons r2 rn =>
          cases rn
          rename_i v1 v2 
          refine ⟨by show 2 ≤ sizeLine; decide, fun p hp => ⟨p, _, rfl, SqT.of upd_same, rfl, ?_⟩⟩
          have rel' : Rel X.K G.at_ R F1 L1 st1.M (upd H1 p (.tup [v1, v2])) := ok1.rel.grow (.refl F1) (ok1.rel.fh.upd (ok1.rel.fh.none hp)) (Sub.new hp) fun _ _ _ q => q
          exact ⟨_, _, rfl, _, _, rfl, rfl, o1 _ F1 L1 _ (.refl _ _) (((ok1.with (.refl F1) rel').setSl i r1).setSl j r2)⟩
    · exact o1.elim, ha.bel.bind fun ws => fun st o st' _ e => by
    split at e
    · cases e; exact .refl _
    · cases e⟩
end
end Pm

set_option maxHeartbeats 2000000
/-! Q33: an own operator a & b of one class; str(int) -/
namespace Pm
open PySem PyProof.Rows L2 He
section
variable {X : Cx} {G : Cl} {Wx : WX} {pos : Pos} {a b : Expr} {f h : Ev Res} {c : Nat} {fs : Fn} {z : Bool} {k : Nat} {fa : Addr} {fd : FuncData} {ps : List Str}
/-- the class's own operator -/
structure OpOk (K : PySem.W.Frag) (C : Addr) (m : Str) (f : Addr) : Prop where
  first : PySem.W.selfFirst K C = true
  at_ : PySem.W.findIn K (.ref C) m = some (some (.ref f))
  fn : PySem.W.isFn K (.ref f) = true
def opB (K : PySem.W.Frag) (C : Addr) (m : Str) (f : Addr) : Bool := PySem.W.selfFirst K C && (eqO (PySem.W.findIn K (.ref C) m) (some (some (.ref f))) && PySem.W.isFn K (.ref f))
theorem opB_ok {K : PySem.W.Frag} {C f : Addr} {m : Str} (h : opB K C m f = true) : OpOk K C m f := by
  obtain ⟨h1, h⟩ := ba h
  obtain ⟨h2, h3⟩ := ba h
  exact ⟨h1, eqO_ok h2, h3⟩
def eOwnOp (fs : Fn) (c : Nat) (f h : Ev Res) : Ev Res := (evW f).bind fun w => (evW h).bind fun u => fun st => if isCls st.M c w && isCls st.M c u then eCallF fs [w, u] st else none
def rOwnOp (K : PySem.W.Frag) (G : Cl) (Wx : WX) (fs : Fn) (c : Nat) : L2.St → R2 := fun σ x y H Q => ∃ R F L M w u, Rel K G.at_ R F L M H ∧ RepW K G.at_ F L w x ∧ RepW K G.at_ F L u y ∧ isCls M c w = true ∧ isCls M c u = true ∧ OutF K G.at_ R F L Q (WE Wx σ) (fs [w, u] M)
theorem tOwnOp_of {K : PySem.W.Frag} {σ : L2.St} {H : Hp} {Q : VK} (t : tE K G Wx (eOwnOp fs c f h) σ H Q) : tOpS (rOwnOp K G Wx fs c) (tE K G Wx f) (tE K G Wx h) σ H Q := by
  obtain ⟨R, F, L, st, ok, o⟩ := t
  refine tE_W ok (OutP.bind (f := evW f) o fun w st1 F1 L1 H1 x1 ok1 o1 v rv => ?_)
  refine tE_W ok1 (OutP.bind (f := evW h) o1 fun u st2 F2 L2 H2 x2 ok2 o2 v2 ru => ?_)
  split at o2
  · rename_i hc
    rw [Bool.and_eq_true] at hc
    exact ⟨R, F2, L2, st2.M, w, u, ok2.rel, rv.ext x2, ru, hc.1, hc.2, call_out ok2 o2 fun r st3 F3 L3 H3 z x3 ok3 p rr => p z rr⟩
  · exact o2.elim
theorem bel_ownOp (fb : FnB fs) (bf : Bel f) (bh : Bel h) : Bel (eOwnOp fs c f h) := (bel_evW bf).bind fun w => (bel_evW bh).bind fun u => fun st o st' hb e => by
  split at e
  · exact bel_callF fb _ _ _ _ hb e
  · cases e
theorem relV_ni {x : V} (r : RelV x .notImplemented) : False := by
  cases x with
  | non => cases r
  | bl b => cases r
  | ref a => cases r
  | ty n => cases r
  | _ => obtain ⟨t, e⟩ := r; cases e
theorem se_ownOp {op : Operator} (q : OpOk X.K (G.at_ c) (PySem.dunder op.info.2) fa) (F : FnZ z X.prog X.w X.K X.mg X.base (L2.CX X.prog X.w) k fa fd ps (spF X.K G.at_ ps.length fs)) (fb : FnB fs) (h2 : ps.length = 2) (hr : Room k X.A) (hz : z = true → X.A.guards = some []) (tk : Takes X Wx) (hb : Binds X.K fd ps [])
    (ha : SE X G Wx a f) (hi : SE X G Wx b h) : SE X G Wx (.BinOp a op b pos) (eOwnOp fs c f h) :=
  ⟨PE_imp (t := tOpS (rOwnOp X.K G Wx fs c) (tE X.K G Wx f) (tE X.K G Wx h)) ⟨fun pins s σ H Q I t => by
    refine wpAny_BinOp (thn (ha.pe.run pins s σ H _ I t) fun v s1 ⟨x, H1, I1, r1, q1⟩ => thn (hi.pe.run pins s1 σ H1 _ I1 q1) fun u s2 ⟨y, H2, I2, r2, R, F0, L, M, w, uw, rel, rw1, rw2, hc, hc2, o⟩ => ?_)
    obtain ⟨a', dx, fl, rfl, ha'⟩ := isCls_ok rel rw1 hc
    obtain rfl : v = Value.ref a' := r1
    obtain ⟨b', dx', fl', rfl, hb'⟩ := isCls_ok rel rw2 hc2
    obtain rfl : u = Value.ref b' := r2
    obtain ⟨mA, J, _⟩ := ins_get I2.hok ha'
    obtain ⟨od, J, _⟩ := J.look
    obtain ⟨mB, J2, _⟩ := ins_get I2.hok hb'
    obtain ⟨od2, J2, _⟩ := J2.look
    obtain ⟨m, hF⟩ := I2.fr
    refine PySem.W.binop_K hF I2.ok.mod.kin J J2.type q.first q.at_ q.fn (wpAny_mono (call_at (A := X.A) rfl F hr hz tk hb (vs := [.ref a', .ref b']) I2 (.cons rfl (.cons rfl .nil)) (by simp [h2]) rel (.cons rw1 (.cons rw2 .nil)) o) (fun v' s' hq => ?_) fun _ _ y => y)
    obtain ⟨z', H', I', rz, qz⟩ := hq
    unfold PySem.W.CmpBack
    split
    · exact relV_ni rz
    · exact ⟨z', H', I', rz, qz⟩⟩
    fun _ _ _ t => tOwnOp_of t, bel_ownOp fb ha.bel hi.bel⟩
/-! ### str(int) -/
def dStr : D → Option Res
  | .int i => if i.natAbs.log2 < 1920 then some (.d (.str (toString i))) else none
  | _ => none
theorem cr_str : CallR X (.type "str") (rBf X.K G (b1 dStr)) := cr_b1 call_str_int fun R F L M H d v res Q rel r e q => by
  unfold dStr at e
  split at e
  · split at e
    · rename_i hh
      cases e; obtain rfl := r.int_inv; exact ⟨_, rfl, hh, q _ F H (.refl _) rel (.str _)⟩
    · cases e
  · cases e
end
section
variable {Q : Res → S → Prop} {st : S} {f h : Ev Res}
@[simp] theorem wp_ownOp {fs : Fn} {c : Nat} : Wp (eOwnOp fs c f h st) Q ↔ Wp (f st) fun r s => Wp (toW r s) fun w s => Wp (h s) fun r s' => Wp (toW r s') fun u s' => isCls s'.M c w = true ∧ isCls s'.M c u = true ∧ Wp (eCallF fs [w, u] s') Q := by
  unfold eOwnOp
  rw [wp_bind, wp_evW]
  constructor <;> intro hh <;> refine hh.mono fun r s z => z.mono fun w s z => ?_
  · rw [wp_bind, wp_evW] at z
    refine z.mono fun r s z => z.mono fun u s z => ?_
    split at z
    · rename_i hc
      rw [Bool.and_eq_true] at hc
      exact ⟨hc.1, hc.2, z⟩
    · exact z.elim
  · rw [wp_bind, wp_evW]
    refine z.mono fun r s z => z.mono fun u s z => ?_
    rw [if_pos (by rw [z.1, z.2.1]; rfl)]
    exact z.2.2
end
end Pm

set_option maxHeartbeats 2000000
/-! Q34: own exceptions of one field: raised, caught -/
namespace Pm
open PySem PyProof.Rows L2 He
/-- self.f = x, all that the class's __init__ does -/
def spI (K : PySem.W.Frag) (f : Str) : Sp := fun vs H Q _ => ∃ (a C : Addr) (y : V), vs = [.ref a, y] ∧ H a = some (exo a C none) ∧ OexC K C ∧ PySem.W.findIn K (.ref C) f = some none ∧
  ∀ dx, H dx = none → dx ≠ a → Q .non (upd (upd H dx (exd dx [(f, y)])) a (exo a C (some dx)))
theorem spI_run {K : PySem.W.Frag} {f : Str} {N : List Str} {vs : List V} {H : Hp} {Q : VK} {E : XK} (hN : N.length = 2) (h : spI K f vs H Q E) : tOst K f (tVar 0) (tVar 1) { nx := fun _ H' => Q .non H', rt := Q } (L2.start N vs) H := by
  obtain ⟨a, C, y, rfl, h1, h2, h3, h4⟩ := h
  have e : L2.start N [.ref a, y] = [some (.ref a), some y] := by
    unfold L2.start
    rw [hN]; rfl
  rw [e]
  exact ⟨y, rfl, .ref a, rfl, a, C, rfl, h2, h3, .inl ⟨h1, h4⟩⟩
section
variable {X : Cx} {G : Cl} {Wx : WX} {pos pos2 p : Pos} {e : Expr} {fa : Ev (List W)} {c k : Nat} {fI : Addr} {fd : FuncData} {ps : List Str} {fld x : Str}
/-! ### raise C(e) -/
def raiseD (c : Nat) (f : Str) : List W → Ev Fl
  | [.d d] => fun st => some (.exc ⟨c, [(f, d)]⟩, st)
  | _ => Ev.fail
def fRaise (c : Nat) (f : Str) (fa : Ev (List W)) : Ev Fl := fa.bind (raiseD c f)
theorem ss_raise (T : OexC X.K (G.at_ c)) (hno : PySem.W.findIn X.K (.ref (G.at_ c)) fld = some none) (iC : PySem.W.findIn X.K (.ref (G.at_ c)) "__init__" = some (some (.ref fI))) (tI : PySem.W.typeIn X.K (.ref fI) = some (.type "function"))
    (F1 : FnOk X.prog X.w X.K X.mg X.base (L2.CX X.prog X.w) k fI fd ps (spI X.K fld)) (hr : Room (k + 1) X.A) (hb : Binds X.K fd ps []) (tk : Takes X Wx) (hg : Gl X x) (hm : X.mg x = some (.ref (G.at_ c))) (ha : SA X G Wx [e] fa) (hc : X.calm = true := by rfl)
    (hdb : (x == ("__debug__" : Str)) = false := by decide) (he : starEach [e] X.env = (false, eval e X.env) :: starEach [] X.env := by rfl) (hpl : (backTo pos (starEach [] X.env)).any (·.1) = false := by rfl) :
    SS X G Wx (.Raise (some (.Call (.Name x p) [e] [] pos)) none pos2) (fRaise c fld fa) :=
  ⟨PS_imp (ps_raise hc tk (pmk_oex T iC tI F1 hr hb .nil (fun _ _ _ _ _ _ _ h => by
      obtain ⟨_, _, _, _, _, _, _, _, _, _, _, _, z⟩ := h
      exact z.elim) hg hm ha.pa hdb he hpl)) fun D σ H ⟨R, F, L, st, ok, o⟩ => by
    refine ⟨R, F, L, st, ok, OutS.bind (f := fa) o fun ws st1 F1 L1 H1 x1 ok1 o1 vs rvs => ?_⟩
    match ws, rvs, o1 with
    | [.d d], .cons (v := v) r .nil, o1 =>
      refine ⟨by simp, fun a ha => ⟨a, _, v, rfl, upd_same, T, hno, fun dx hd ne => ⟨rfl, dx, _, upd_same, by rw [upd_ne ne, upd_same], by rw [upd_ne ne] at hd; exact hd, ?_⟩⟩⟩
      have hd1 : H1 dx = none := by rw [upd_ne ne] at hd; exact hd
      have eH : upd (L2.del (upd (upd (upd H1 a (exo a (G.at_ c) none)) dx (exd dx [(fld, v)])) a (exo a (G.at_ c) (some dx))) a) dx (.xd [(fld, v)]) = upd H1 dx (.xd [(fld, v)]) := by
        funext b
        by_cases q : b = dx
        · rw [q, upd_same, upd_same]
        · rw [upd_ne q, upd_ne q]
          by_cases qa : b = a
          · rw [qa, L2.del_same, ha]
          · rw [L2.del_ne qa, upd_ne qa, upd_ne q, upd_ne qa]
      rw [eH]
      obtain ⟨s1, rel⟩ := ok1.rel.newF (o := .xd [(fld, v)]) hd1
      exact o1 σ (upd F1 dx (.xd [(fld, v)])) L1 (upd H1 dx (.xd [(fld, v)])) dx _ (.frz s1) (ok1.with s1 rel) upd_same (.cons (r.mono s1) .nil)
    | [], _, o1 => exact o1.elim
    | .loc _ :: _, _, o1 => exact o1.elim
    | .d _ :: _ :: _, _, o1 => exact o1.elim, ha.bel.bind fun ws => by
      match ws with
      | [.d d] => exact fun st o st' _ e => by cases e; exact .refl _
      | [] => exact .fail'
      | .loc _ :: _ => exact .fail'
      | .d _ :: _ :: _ => exact .fail'⟩
/-! ### try: body, except x as n: suite -/
def noExS : Sl → Bool
  | .ex _ _ => false
  | _ => true
def noEx (sl : List Sl) : Bool := sl.all noExS
def flOk : Fl → Bool
  | .ret (.ex _ _) => false
  | _ => true
/-- behind the suite: the name goes -/
def behind (i : Nat) : Option (Out Fl × S) → Option (Out Fl × S)
  | some (.ok fl, st) => if flOk fl && noEx (st.sl.set i .no) then some (.ok fl, ⟨st.sl.set i .no, st.M, st.b⟩) else none
  | _ => none
def fTry (tab : Nat → Option Bool) (i : Nat) (fb : Ev Fl) (fs : Nat → Ev Fl) : Ev Fl := fun st => match fb st with
  | some (.exc x, st1) => match tab x.c with
    | some true => if noEx st1.sl && decide (i < st1.sl.length) then behind i (fs x.c ⟨st1.sl.set i (.ex x.c x.fs), st1.M, st1.b⟩) else none
    | some false => some (.exc x, st1)
    | none => none
  | r => r
theorem bel_try {tab : Nat → Option Bool} {i : Nat} {fb : Ev Fl} {fs : Nat → Ev Fl} (hb : Bel fb) (hs : ∀ c, tab c = some true → Bel (fs c)) : Bel (fTry tab i fb fs) := fun st o st' hl e => by
  unfold fTry at e
  cases e1 : fb st with
  | none => rw [e1] at e; cases e
  | some p =>
    obtain ⟨out, st1⟩ := p
    have l1 := hb _ _ _ hl e1
    rw [e1] at e
    cases out with
    | ok fl => cases e; exact l1
    | exc x =>
      dsimp only at e
      cases e2 : tab x.c with
      | none => rw [e2] at e; cases e
      | some b =>
        rw [e2] at e
        cases b with
        | false => cases e; exact l1
        | true =>
          dsimp only at e
          split at e
          · unfold behind at e
            cases e3 : fs x.c ⟨st1.sl.set i (.ex x.c x.fs), st1.M, st1.b⟩ with
            | none => rw [e3] at e; cases e
            | some p =>
              obtain ⟨out, st2⟩ := p
              rw [e3] at e
              have l2 := hs x.c e2 ⟨st1.sl.set i (.ex x.c x.fs), st1.M, st1.b⟩ _ _ (l1.ok hl) e3
              cases out with
              | exc x => cases e
              | ok fl =>
                dsimp only at e
                split at e
                · cases e; exact Le.trans (b := ⟨st1.sl.set i (.ex x.c x.fs), st1.M, st1.b⟩) l1 l2
                · cases e
          · cases e
theorem RepSl.swap {K : PySem.W.Frag} {G G' : Cl} {F : Hp} {L : List Addr} {σ : L2.St} {i : Nat} {x : Sl} (h : noExS x = true) (e : G'.at_ = G.at_) (r : RepSl K G F L σ i x) : RepSl K G' F L σ i x := by
  cases x with
  | no => trivial
  | w w => obtain ⟨v, h1, h2⟩ := r; exact ⟨v, h1, by rw [e]; exact h2⟩
  | ex c fs => cases h
theorem noEx_get {sl : List Sl} {i : Nat} {x : Sl} (h : noEx sl = true) (e : sl[i]? = some x) : noExS x = true := List.all_eq_true.mp h x (List.mem_of_getElem? e)
variable {n : Str} {np pos' : Pos} {body suite : List Stmt} {b₀ : Stmt} {cv : Value} {i : Nat} {tab : Nat → Option Bool} {fb : Ev Fl} {fs : Nat → Ev Fl}
theorem ss_try (hN : X.N.Nodup) (tk : Takes X Wx) (hcv : Names X x cv) (htab : ∀ c b, tab c = some b → PySem.W.exmOne X.K (.ref (G.at_ c)) cv = some b)
    (hb : ∀ (W : WX) (pn : List (Addr × Obj)) (xe : Value → Shared → Prop), Takes (X.tr pn xe) W → PassesOwn (model X.prog X.w) X.A X.env xe → SB (X.tr pn xe) G W body fb)
    (hsu : ∀ (c : Nat), tab c = some true → ∀ (a dd : Addr) (oe : Obj) (pn : List (Addr × Obj)), Zc (.ref (G.at_ c)) (some dd) oe → (∃ vs, oe.data = .fields vs) → SB (X.suite a ((a, oe) :: pn)) ⟨G.at_, a, dd⟩ (fun _ _ _ _ => False) (b₀ :: suite) (fs c))
    (hi : X.N[i]? = some n := by rfl) (hln : X.env.kindOf n = some .local := by rfl) (hs : X.stack = X.env :: X.outer := by rfl) (hf : X.env.frame = some X.env.locals := by rfl) :
    SS X G Wx (.Try body [.ExceptHandler (some (.Name x np)) (some n) (b₀ :: suite) pos'] [] [] pos) (fTry tab i fb fs) :=
  ⟨PS_imp (ps_try_as (tb := fun W => tS X.K G W fb) (ts := fun a cls d D σ H => ∃ c dd, tab c = some true ∧ cls = .ref (G.at_ c) ∧ d = some dd ∧ tS X.K ⟨G.at_, a, dd⟩ (fun _ _ _ _ => False) (fs c) D σ H) hs hf hN hi hln hcv tk
    (fun W pn xe t p => (hb W pn xe t p).pss) (fun a oe cls d pn hz hd => ⟨fun pins s σ H D I ⟨c, dd, ht, ec, ed, h⟩ => by
      subst ec ed
      exact (hsu c ht a dd oe pn hz hd).pss.run pins s σ H D I h⟩)) fun D σ H ⟨R, F, L, st, ok, o⟩ => by
    refine ⟨R, F, L, st, ok, ?_⟩
    unfold fTry at o
    cases e1 : fb st with
    | none => rw [e1] at o; exact o.elim
    | some p =>
      obtain ⟨out, st1⟩ := p
      rw [e1] at o
      cases out with
      | ok fl => exact o
      | exc y =>
        dsimp only at o
        intro σ1 F1 L1 H1 dd vs x1 ok1 hd rf
        cases e2 : tab y.c with
        | none => rw [e2] at o; exact o.elim
        | some b =>
          rw [e2] at o
          refine ⟨b, htab _ _ e2, fun hb1 a ha => ?_, fun hb0 => ?_⟩
          · subst hb1
            dsimp only at o
            split at o
            · rename_i hh
              rw [Bool.and_eq_true] at hh
              refine ⟨y.c, dd, e2, rfl, rfl, R, F1, L1, ⟨st1.sl.set i (.ex y.c y.fs), st1.M, st1.b⟩, ⟨ok1.rel, by simp [ok1.len], fun j z ez => ?_⟩, ?_⟩
              · by_cases q : j = i
                · subst q
                  have hj : j < st1.sl.length := of_decide_eq_true hh.2
                  rw [List.getElem?_set_self hj] at ez
                  cases ez
                  exact ⟨by rw [List.getElem?_set_self (by rw [← ok1.len]; exact hj)], vs, hd, rf⟩
                · rw [List.getElem?_set_ne (Ne.symm q)] at ez
                  have r := (ok1.sl j z ez).swap (G := G) (G' := ⟨G.at_, a, dd⟩) (noEx_get hh.1 ez) rfl
                  cases z with
                  | no => trivial
                  | w w => obtain ⟨v, h1, h2⟩ := r; exact ⟨v, by rw [List.getElem?_set_ne (Ne.symm q)]; exact h1, h2⟩
                  | ex c fs => have := noEx_get hh.1 ez; cases this
              · unfold behind at o
                cases e3 : fs y.c ⟨st1.sl.set i (.ex y.c y.fs), st1.M, st1.b⟩ with
                | none => rw [e3] at o; exact o.elim
                | some p =>
                  obtain ⟨out, st2⟩ := p
                  rw [e3] at o
                  cases out with
                  | exc z => exact o.elim
                  | ok fl =>
                    dsimp only at o
                    split at o
                    · rename_i h2
                      rw [Bool.and_eq_true] at h2
                      intro σ2 F2 L2 H2 x2 ok2
                      have ok3 : Ok X.K G R F2 L2 ⟨st2.sl.set i .no, st2.M, st2.b⟩ (σ2.set i none) H2 := ⟨ok2.rel, by simp [ok2.len], fun j z ez => by
                        by_cases q : j = i
                        · subst q
                          have hj : j < st2.sl.length := by
                            have := (List.getElem?_eq_some_iff.mp ez).1
                            simpa using this
                          rw [List.getElem?_set_self hj] at ez
                          cases ez
                          trivial
                        · have nz := noEx_get h2.2 ez
                          rw [List.getElem?_set_ne (Ne.symm q)] at ez
                          have r := (ok2.sl j z ez).swap (G := ⟨G.at_, a, dd⟩) (G' := G) nz rfl
                          cases z with
                          | no => trivial
                          | w w => obtain ⟨v, h1, h2⟩ := r; exact ⟨v, by rw [List.getElem?_set_ne (Ne.symm q)]; exact h1, h2⟩
                          | ex c fs => cases nz⟩
                      have o2 := o (σ2.set i none) F2 L2 H2 (x1.trans x2) ok3
                      cases fl with
                      | nx => exact o2
                      | brk => exact o2
                      | ct => exact o2
                      | ret r =>
                        intro v rv
                        refine o2 v ?_
                        cases r with
                        | d x => exact rv
                        | loc i => exact rv
                        | new c => exact rv
                        | ex c fs => cases h2.1
                    · exact o.elim
            · exact o.elim
          · subst hb0
            exact o σ1 F1 L1 H1 dd vs x1 ok1 hd rf, bel_try (hb _ [] (fun _ _ => False) takes0 PassesOwn.never).bel fun c h => (hsu c h 0 0 { cls := .ref (G.at_ c), dict := some 0, data := .fields #[] } [] ⟨rfl, rfl⟩ ⟨_, rfl⟩).bel⟩
/-! ### in the suite: e.f, isinstance(e, C) -/
def eXf (c : Nat) (f : Str) (h : Ev Res) : Ev Res := h.bind fun r => match r with
  | .ex c' fs => if c' = c then Ev.lift ((fs.lookup f).map .d) else Ev.fail
  | _ => Ev.fail
def eIsE (c : Nat) (b : Bool) (h : Ev Res) : Ev Res := h.bind fun r => match r with
  | .ex c' _ => if c' = c then Ev.pure (.d (.bl b)) else Ev.fail
  | _ => Ev.fail
theorem bel_xf {h : Ev Res} (hh : Bel h) : Bel (eXf c fld h) := hh.bind fun r => by
  cases r with
  | ex c' fs =>
    dsimp only
    split
    · exact .lift
    · exact .fail'
  | _ => exact .fail'
theorem bel_isE {b : Bool} {h : Ev Res} (hh : Bel h) : Bel (eIsE c b h) := hh.bind fun r => by
  cases r with
  | ex c' fs =>
    dsimp only
    split
    · exact .pure'
    · exact .fail'
  | _ => exact .fail'
variable {a dd : Addr} {oe : Obj} {pn : List (Addr × Obj)} {fo : Ev Res} {e2 : Expr} {b : Bool}
theorem se_xf (T : XfC X.K (G.at_ c)) (hno : PySem.W.findIn X.K (.ref (G.at_ c)) fld = some none) (hz : Zc (.ref (G.at_ c)) (some dd) oe) (hf : ∃ vs, oe.data = .fields vs) (he : SE (X.suite a ((a, oe) :: pn)) ⟨G.at_, a, dd⟩ Wx e fo)
    (hbase : attributeBase e fld X.env (eval e X.env) = eval e X.env := by rfl) : SE (X.suite a ((a, oe) :: pn)) ⟨G.at_, a, dd⟩ Wx (.Attribute e fld pos) (eXf c fld fo) :=
  ⟨PE_imp (pe_xf T hno hz hf he.pe hbase) fun σ H Q ⟨R, F, L, st, ok, o⟩ => by
    refine ⟨R, F, L, st, ok, OutP.bind (f := fo) o fun r st1 F1 L1 H1 x1 ok1 o1 v rv => ?_⟩
    cases r with
    | ex c' fs =>
      obtain ⟨hv, vs, hd, rf⟩ := rv
      dsimp only at o1
      split at o1
      · rename_i hc
        obtain ⟨q, eq, o2⟩ := OutP.lift o1
        obtain ⟨d, ed, rfl⟩ := Option.map_eq_some_iff.mp eq
        obtain ⟨y, ey, ry⟩ := rf.lookup ed
        exact ⟨hv, rfl, dd, vs, y, rfl, ok1.rel.fh _ _ hd, ey, o2 F1 L1 H1 (.refl _ _) ok1 y ry⟩
      · exact o1.elim
    | _ => exact o1.elim, bel_xf he.bel⟩
def tgOf : D → Option Tg
  | .ty n => some (.ty n)
  | .cls c => some (.own c)
  | _ => none
structure IsE (K : PySem.W.Frag) (C : Addr) : Prop where
  cl : (PySem.W.clsIn K C).isSome = true
  hg : PySem.W.findIn K (.ref C) "__getattribute__" = some (some (.builtin "BaseException.__getattribute__"))
  hk : PySem.W.findIn K (.ref C) "__getattr__" = some none
  hs : PySem.W.subIn K (.ref C) (.type "BaseException") = some true
  ha : PySem.W.findIn K (.ref C) "__class__" = some (some (.builtin "object.__class__"))
  hn : PySem.W.specialIn K (.builtin "object.__class__") "__get__" = some (some (.builtin "getset_descriptor.__get__"))
  ht : PySem.W.takesIn K (.builtin "object.__class__") = some true
  hm : PySem.W.mroIn K C (.type "object") = some true
theorem se_isE {d : D} {tg : Tg} (T : IsE X.K (G.at_ c)) (htg : tgOf d = some tg) (hk : PySem.W.kitOne X.K (.ref (G.at_ c)) (tgV G.at_ tg) = some b) (hz : Zc (.ref (G.at_ c)) (some dd) oe) (hf : ∃ vs, oe.data = .fields vs)
    (he : SE (X.suite a ((a, oe) :: pn)) ⟨G.at_, a, dd⟩ Wx e fo) (h2 : SE (X.suite a ((a, oe) :: pn)) ⟨G.at_, a, dd⟩ Wx e2 (eC d)) (hg : Gl X "isinstance") (hm : X.mg "isinstance" = none)
    (hs1 : starEach [e, e2] X.env = (false, eval e X.env) :: starEach [e2] X.env := by rfl) (hs2 : starEach [e2] X.env = (false, eval e2 X.env) :: starEach [] X.env := by rfl) (hpl : (backTo pos (starEach [e2] X.env)).any (·.1) = false := by rfl) :
    SE (X.suite a ((a, oe) :: pn)) ⟨G.at_, a, dd⟩ Wx (.Call (.Name "isinstance" p) [e, e2] [] pos) (eIsE c b fo) :=
  ⟨PE_imp (pe_callB (X := X.suite a ((a, oe) :: pn)) (r := fun xs H Q => ∃ y vs, xs = [.ref a, y] ∧ (∀ u, RelV y u → u = tgV G.at_ tg) ∧ H dd = some (.xd vs) ∧ Q (.bl b) H) (fun pins s σ H xs us Q I r ⟨y, vs, ex, hy, hd, q⟩ => by
      subst ex
      cases r with
      | cons r1 rn => cases rn with
        | cons r2 rn =>
          cases rn
          cases r1
          have eu := hy _ r2
          subst eu
          obtain ⟨hget, _⟩ := I.pin (a, oe) (List.mem_append.mpr (.inl List.mem_cons_self))
          obtain ⟨fv, hv⟩ := hf
          have hx : ObjOk X.prog X.w H s.heap dd (.xd vs) := I.hok dd _ hd
          obtain ⟨mA, hns, hr⟩ := hx
          obtain ⟨od, ho, _⟩ := lookIn_ns hns
          have J : PySem.W.InstAt s.heap a oe (G.at_ c) (some od) := ⟨hget, hz.1, by unfold PySem.W.notCls; rw [hv] <;> rfl, by rw [hz.2]; exact ho⟩
          exact PySem.W.kia_one (PySem.W.kitx_exc T.cl T.hg T.hk T.hs T.ha T.hn T.ht T.hm) I.kIn J hk (fun z => nomatch z) fun tk => ⟨.bl b, H, I.kept (t' := tk) fun _ _ z => z, rfl, q⟩) hg hm rfl (pa_cons he.pe (pa_cons h2.pe pa_nil hs2) hs1) (by decide) (by decide) hs1 hpl) fun σ H Q ⟨R, F, L, st, ok, o⟩ => by
    refine ⟨R, F, L, st, ok, OutP.bind (f := fo) o fun r st1 F1 L1 H1 x1 ok1 o1 v rv => ?_⟩
    cases r with
    | ex c' fs =>
      obtain ⟨hv, vs, hd, rf⟩ := rv
      dsimp only at o1
      split at o1
      · refine ⟨R, F1, L1, st1, ok1, fun F2 L2 H2 x2 ok2 y ry => ?_⟩
        refine ⟨y, vs, by rw [hv], fun u ru => ?_, ok2.rel.fh _ _ (x2.f _ _ hd), o1 F2 L2 H2 x2 ok2 _ (.bl b)⟩
        cases d <;> simp only [tgOf] at htg <;> cases htg
        · cases ry; exact ru
        · cases ry; exact ru
      · exact o1.elim
    | _ => exact o1.elim, bel_isE he.bel⟩
end
end Pm

set_option maxHeartbeats 2000000
/-! Q35: repr of data; a law's end where the guards are known -/
namespace Pm
open PySem PyProof.Rows L2 He
/-- what is tracked at a law's call: the script, if the top has not written it -/
def scrH (K : PySem.W.Frag) (a : Addr) (vs : List Value) (ns : List Int) : Hp := fun b => if b = a ∧ K.lookup a = none then some (.frz { cls := .type "list", data := .seq vs.toArray } (.lst (ns.map V.int))) else none
theorem scrH_some {K : PySem.W.Frag} {a b : Addr} {vs : List Value} {ns : List Int} {u : HO} (h : scrH K a vs ns b = some u) : b = a ∧ K.lookup a = none ∧ u = .frz { cls := .type "list", data := .seq vs.toArray } (.lst (ns.map V.int)) := by
  unfold scrH at h
  split at h
  · rename_i q
    exact ⟨q.1, q.2, (Option.some.inj h).symm⟩
  · cases h
theorem endZ {P : Program} {w : World} {K : PySem.W.Frag} {mg mb : Str → Option Value} {k : Nat} {fa a : Addr} {fd : FuncData} {x : Str} {sp : Sp} {t : Shared} {vs : List Value} {ns : List Int}
    (KX : K.In t.heap) (gM : t.heap.Ns mainGlobals mg) (gB : t.heap.Ns builtinsNs mb) (boot : ∀ x : Str, x ≠ "__name__" → mb x = bootBuiltins x) (nl : t.heap.NoLimit) (ng : t.gens = #[])
    (ha : t.heap.get? a = some { cls := .type "list", data := .seq vs.toArray }) (hi : IntsAre vs ns) (hl : ns.length ≤ sizeLine) (hr : Room k callerA)
    (F : ∀ base : Heap, K.In base → base.Ns mainGlobals mg → FnZ true P w K mg base (L2.CX P w) k fa fd [x] sp) (bnd : ∀ (s : Shared) (u : Value), BindsTo s fd ⟨[u], []⟩ [(x, u)])
    (hsp : ∀ H : Hp, SqL K H a (ns.map V.int) → sp [.ref a] H (fun v _ => v = .bl true) fun _ _ _ => False) :
    codeAny (model P w) callerA (.call (.ref fa) ⟨[.ref a], []⟩) (fun r s' => r = .ok (.ret (.bool true)) ∧ OldK t.heap s'.heap ∧ s'.os = t.os ∧ AllBare s'.gens) t := by
  have len := hi.length
  generalize hH : scrH K a vs ns = H
  have inH : ∀ {b : Addr} {u : HO}, H b = some u → b = a ∧ K.lookup a = none ∧ u = .frz { cls := .type "list", data := .seq vs.toArray } (.lst (ns.map V.int)) := fun {b u} h => by
    subst hH; exact scrH_some h
  -- dicts are none of it
  have dictFree : ∀ {b : Addr} {o : Obj} {es : Array DictEntry} {n : Nat}, t.heap.get? b = some o → o.data = .dict es n → H b = none := fun {b o es n} e d => Option.eq_none_iff_forall_ne_some.mpr fun u h => by
    obtain ⟨rfl, _, _⟩ := inH h
    have := Option.some.inj (e.symm.trans ha)
    rw [this] at d
    exact nomatch d
  have keepNs : ∀ {b : Addr} {m : Str → Option Value}, t.heap.Ns b m → (hidT t.heap H).Ns b m := by
    rintro b m ⟨o, es, n, e, d, r⟩
    exact ⟨o, es, n, hidT_get e (dictFree e d), d, r⟩
  have KB : K.In (hidT t.heap H) := fun b o e => hidT_get (KX b o e) (Option.eq_none_iff_forall_ne_some.mpr fun u h => by
    obtain ⟨rfl, q, _⟩ := inH h
    rw [q] at e; exact nomatch e)
  obtain ⟨mc, nl1, nl2⟩ := nl
  have vi := vals_ints hi
  have held : HOk P w H t.heap := fun b u h => by
    obtain ⟨rfl, _, rfl⟩ := inH h
    exact ⟨ha, by simpa using hl, vs, _, vi, ha⟩
  have scr : SqL K H a (ns.map V.int) := by
    cases q : K.lookup a with
    | none =>
      subst hH
      exact .inl (.inr ⟨_, if_pos ⟨rfl, q⟩⟩)
    | some o =>
      obtain rfl := Option.some.inj ((KX a o q).symm.trans ha)
      exact .inr ⟨_, vs.toArray, _, q, rfl, rfl, rfl, by simpa [len] using hl, by simpa using vi⟩
  have env : Env0 P w K mg (hidT t.heap H) callerA [] t H :=
    { frames := rfl, mod := ⟨KB, keepNs gM, ⟨mb, keepNs gB, boot⟩, ⟨mc, keepNs nl1, nl2⟩⟩, bs := fun b o e => of_hidT e, bsz := Nat.le_of_eq (hidT_size _ _), funs := trivial, frf := fun b hb => (nomatch hb), hok := held, bare := .of_eq ng }
  have go := (F _ KB (keepNs gM)).go callerA [] t H ⟨[.ref a], []⟩ [.ref a] [.ref a] _ _ hr (fun _ => by rfl) env (bnd t (.ref a)) (.cons rfl .nil) (hsp H scr)
  refine codeAny_mono go fun r s' h => ?_
  match r, h with
  | .error e, h =>
    obtain ⟨_, _, _, _, _, _, _, _, _, _, _, _, z⟩ := h
    exact z.elim
  | .ok .next, h => exact h.elim
  | .ok .brk, h => exact h.elim
  | .ok .cont, h => exact h.elim
  | .ok (.ret u), h =>
    obtain ⟨v, H', os, bare, un, ok2, ru, ev⟩ := h
    have ev' : v = .bl true := ev
    rw [ev'] at ru
    obtain rfl : u = Value.bool true := ru
    refine ⟨rfl, OldK.of_keep fun b o e => ?_, os, bare⟩
    cases q : H b with
    | none => exact un.keep b o e q (fun z => nomatch z) (by simp)
    | some u =>
      obtain ⟨rfl, _, rfl⟩ := inH q
      obtain ⟨e2, _⟩ := ok2 b _ (un.frzs b _ _ q)
      rw [← Option.some.inj (e.symm.trans ha)] at e2
      exact e2
theorem walkZ {l : PySem.W.OpenLaw} {n k : Nat} {q : Program} {loose : List Str} {XP : (Str → Option Value) → Heap → Prop} {YP : World → Heap → Prop} {d : DefRec} {fs : Fn} (hn : l.most = some n) (hn2 : n ≤ sizeLine) (hdf : d.params.defaults = []) (hr : Room k callerA)
    (F : ∀ (w : World) (mg : Str → Option Value) (fa : Addr) (h : Heap), YP w h → h.Ns mainGlobals mg → mg d.name = some (.ref fa) → ∃ (K : PySem.W.Frag) (g : Nat → Addr) (fd : FuncData), K.In h ∧ (∀ (s : Shared) (u : Value), BindsTo s fd ⟨[u], []⟩ [("script", u)]) ∧
      ∀ base : Heap, K.In base → base.Ns mainGlobals mg → FnX true l.prog w K mg base g k fa fd ["script"] fs)
    (hf : ∀ ns : List Int, ns.length ≤ n → ∃ M, fs [.d (.scr (ns.map D.int))] [] = some (.ok (.d (.bl true)), M)) : PySem.W.WalkO q loose XP YP l.row.toRowW d [] (fun f vs => PySem.call f vs) := by
  refine Att.attach_call hn hdf fun w s₀ s₁ mg mb fa o pm cd doc a vs ns G Y ho hd hcd hmg hobj hints hlen hg => ?_
  obtain ⟨K, g, fd, KX, hb, hF⟩ := F w mg fa _ Y G.T.g hmg
  obtain ⟨M, e⟩ := hf ns hlen
  exact endZ KX G.T.g G.T.b G.T.builtins G.T.nolimit hg hobj hints (Nat.le_trans hlen hn2) hr (fun base h1 h2 => (hF base h1 h2).ok) hb fun H hS => law_sp hS e
end Pm

set_option maxHeartbeats 2000000
/-! Q36: repr, str(bool), f-strings -/
namespace Pm
open PySem PyProof.Rows L2 He
section
variable {X : Cx} {G : Cl} {Wx : WX} {pos p : Pos} {e : Expr} {f : Ev Res} {c k : Nat} {fs : Fn} {z : Bool} {fa : Addr} {fd : FuncData} {ps : List Str}
/-- how data look -/
def shD (d : D) : Str := (toPy d).shown
def okSh (d : D) : Bool := okD 60 d && ((toPy d).showable && decide ((toPy d).shown.length ≤ sizeLine))
theorem RepV.dp2 {K : PySem.W.Frag} {g : Nat → Addr} {F H : Hp} {d : D} {v : V} (s : Sub F H) (r : RepV K g F H d v) (h : okD 60 d = true) : Dp K H v (toPy d) := by
  cases r with
  | rep r => exact r.dp s h
  | lst h1 r => simp only [toPy]; exact .lst (SqL.of h1) (Reps.dp s r (by simpa [okD] using h))
  | obj h1 h2 r => simp [okD] at h
/-- repr(x) of a tuple or a list -/
def dRepr (d : D) : Option Res := match d with
  | .tup _ => if okSh d then some (.d (.str (shD d))) else none
  | .lst _ => if okSh d then some (.d (.str (shD d))) else none
  | _ => none
theorem dRepr_inv {d : D} {r : Res} (h : dRepr d = some r) : okSh d = true ∧ r = .d (.str (shD d)) ∧ ((∃ xs, d = .tup xs) ∨ ∃ xs, d = .lst xs) := by
  unfold dRepr at h
  split at h
  · split at h
    · rename_i hh; cases h; exact ⟨hh, rfl, .inl ⟨_, rfl⟩⟩
    · cases h
  · split at h
    · rename_i hh; cases h; exact ⟨hh, rfl, .inr ⟨_, rfl⟩⟩
    · cases h
  · cases h
def rRepr (K : PySem.W.Frag) : List V → Hp → VK → Prop := fun xs H Q => ∃ (d : D) (a : Addr), xs = [.ref a] ∧ okSh d = true ∧ Dp K H (.ref a) (toPy d) ∧ Q (.str (shD d)) H
theorem call_repr (hg : X.A.guards = some []) (hu : X.A.units + 64 < cLine) : CallR X (.builtin "repr") (rRepr X.K) := by
  intro pins s σ H xs us Q I r ⟨d, a, ex, ok, dp, q⟩
  subst ex
  cases r with
  | cons r1 rn =>
    cases rn
    unfold okSh at ok
    simp only [Bool.and_eq_true, decide_eq_true_eq] at ok
    obtain ⟨l1, l2⟩ := lay_ok 60 d ok.1
    obtain ⟨as, rd⟩ := Dp.reads I _ _ _ dp r1
    cases r1
    exact repr_of_reads' rd ok.2.1 (PyData.noDict_hsm (PyData.hasDict_of_canLay _ l1)) hg (by omega) (fun _ _ e => e) (fun h' u tk hk => ⟨.str _, H, I.kept (t' := tk) hk, ⟨_, rfl⟩, q⟩) ok.2.2
theorem rep_ref {K : PySem.W.Frag} {g : Nat → Addr} {F H : Hp} {d : D} {v : V} (r : RepV K g F H d v) (h : (∃ xs, d = .tup xs) ∨ ∃ xs, d = .lst xs) : ∃ a, v = .ref a := by
  rcases h with ⟨xs, rfl⟩ | ⟨xs, rfl⟩
  · cases r with
    | rep r => cases r; exact ⟨_, rfl⟩
  · cases r with
    | rep r => cases r; exact ⟨_, rfl⟩
    | lst _ _ => exact ⟨_, rfl⟩
theorem cr_repr (hg : X.A.guards = some []) (hu : X.A.units + 64 < cLine) : CallR X (.builtin "repr") (rBf X.K G (b1 dRepr)) := cr_b1 (call_repr hg hu) fun R F L M H d v res Q rel r e q => by
  obtain ⟨h1, rfl, h3⟩ := dRepr_inv e
  obtain ⟨a, rfl⟩ := rep_ref r h3
  unfold okSh at h1
  exact ⟨d, a, rfl, h1, r.dp2 rel.fh (Bool.and_eq_true_iff.mp h1).1, q _ F H (.refl _) rel (.str _)⟩
/-! ### str(x) of an int or a truth value -/
def blT (b : Bool) : Str := if b then "True" else "False"
def dStrB : D → Option Res
  | .int i => if i.natAbs.log2 < 1920 then some (.d (.str (toString i))) else none
  | .bl b => some (.d (.str (blT b)))
  | _ => none
theorem call_strB : CallR X (.type "str") (fun xs H Q => (∃ i, xs = [.int i] ∧ i.natAbs.log2 < 1920 ∧ Q (.str (toString i)) H) ∨ ∃ b, xs = [.bl b] ∧ Q (.str (blT b)) H) := by
  intro pins s σ H xs us Q I r h
  rcases h with ⟨i, rfl, hz, q⟩ | ⟨b, rfl, q⟩
  · exact call_str_int pins s σ H _ us Q I r ⟨i, rfl, hz, q⟩
  · cases r with
    | cons r1 rn =>
      cases rn
      cases r1
      exact PySem.P.str_of_bool ⟨.str (blT b), H, I.tok _, ⟨_, rfl⟩, q⟩
theorem cr_strB : CallR X (.type "str") (rBf X.K G (b1 dStrB)) := cr_b1 call_strB fun R F L M H d v res Q rel r e q => by
  unfold dStrB at e
  split at e
  · split at e
    · rename_i hh
      cases e; obtain rfl := r.int_inv; exact .inl ⟨_, rfl, hh, q _ F H (.refl _) rel (.str _)⟩
    · cases e
  · cases e; obtain rfl := r.bl_inv; exact .inr ⟨_, rfl, q _ F H (.refl _) rel (.str _)⟩
  · cases e
/-! ### f'..{x}..{y!r}..' -/
def fmtD : D → Option D
  | .str y => if y.length ≤ sizeLine then some (.str y) else none
  | .int i => if i.natAbs.log2 < 1920 then some (.str (toString i)) else none
  | .bl b => some (.str (blT b))
  | _ => none
def fmtR (d : D) : Option D := match d with
  | .tup _ => if okSh d then some (.str (shD d)) else none
  | .lst _ => if okSh d then some (.str (shD d)) else none
  | _ => none
def eFmt (g : D → Option D) (f : Ev Res) : Ev Res := (evD f).bind fun d => Ev.lift ((g d).map .d)
theorem bel_fmt {g : D → Option D} (h : Bel f) : Bel (eFmt g f) := (bel_evD h).bind fun d => .lift
theorem se_fmt (he : SE X G Wx e f) : SE X G Wx (.FormattedValue e (-1) none pos) (eFmt fmtD f) :=
  ⟨⟨fun pins s σ H Q I ⟨R, F, L, st, ok, o⟩ => by
    refine wpAny_FormattedValue_plain (thn (he.pe.run pins s σ H (fun x H1 => (∃ y : Str, x = .str y ∧ y.length ≤ sizeLine ∧ Q (.str y) H1) ∨ (∃ i : Int, x = .int i ∧ i.natAbs.log2 < 1920 ∧ Q (.str (toString i)) H1) ∨ ∃ b, x = .bl b ∧ Q (.str (blT b)) H1) I ?_) fun v s1 hv => ?_)
    · refine tE_D ok (OutP.bind (f := evD f) o fun d st1 F1 L1 H1 x1 ok1 o1 v rv => ?_)
      obtain ⟨r, er, o2⟩ := OutP.lift o1
      obtain ⟨y, ey, rfl⟩ := Option.map_eq_some_iff.mp er
      unfold fmtD at ey
      split at ey
      · split at ey
        · rename_i hz; cases ey; cases rv; exact .inl ⟨_, rfl, hz, o2 F1 L1 H1 (.refl _ _) ok1 _ (.str _)⟩
        · cases ey
      · split at ey
        · rename_i hz; cases ey; cases rv; exact .inr (.inl ⟨_, rfl, hz, o2 F1 L1 H1 (.refl _ _) ok1 _ (.str _)⟩)
        · cases ey
      · cases ey; cases rv; exact .inr (.inr ⟨_, rfl, o2 F1 L1 H1 (.refl _ _) ok1 _ (.str _)⟩)
      · cases ey
    · obtain ⟨x, H1, I1, r1, q⟩ := hv
      rcases q with ⟨y, rfl, hz, q⟩ | ⟨i, rfl, hz, q⟩ | ⟨b, rfl, q⟩
      · obtain ⟨t, rfl⟩ := r1
        exact wpAny_formatField_str ⟨.str y, H1, I1, ⟨t, rfl⟩, q⟩ ⟨.str y, H1, I1.tok _, ⟨_, rfl⟩, q⟩ hz
      · obtain ⟨t, rfl⟩ := r1
        exact wpAny_formatField_int hz ⟨.str (toString i), H1, I1.tok _, ⟨_, rfl⟩, q⟩
      · cases r1
        exact wpAny_formatField_bool ⟨.str (blT b), H1, I1.tok _, ⟨_, rfl⟩, q⟩⟩, bel_fmt he.bel⟩
theorem se_fmtR (hg : X.A.guards = some []) (hu : X.A.units + 64 < cLine) (he : SE X G Wx e f) : SE X G Wx (.FormattedValue e 114 none pos) (eFmt fmtR f) :=
  ⟨⟨fun pins s σ H Q I ⟨R, F, L, st, ok, o⟩ => by
    refine wpAny_FormattedValue_repr (thn (he.pe.run pins s σ H (fun x H1 => ∃ (d : D) (a : Addr), x = .ref a ∧ okSh d = true ∧ Dp X.K H1 (.ref a) (toPy d) ∧ Q (.str (shD d)) H1) I ?_) fun v s1 hv => ?_)
    · refine tE_D ok (OutP.bind (f := evD f) o fun d st1 F1 L1 H1 x1 ok1 o1 v rv => ?_)
      obtain ⟨r, er, o2⟩ := OutP.lift o1
      obtain ⟨y, ey, rfl⟩ := Option.map_eq_some_iff.mp er
      unfold fmtR at ey
      split at ey
      · split at ey
        · rename_i hz
          cases ey
          obtain ⟨a, rfl⟩ := rep_ref (H := H1) (.rep rv) (.inl ⟨_, rfl⟩)
          have hz' := hz
          unfold okSh at hz'
          exact ⟨_, a, rfl, hz, rv.dp ok1.rel.fh (Bool.and_eq_true_iff.mp hz').1, o2 F1 L1 H1 (.refl _ _) ok1 _ (.str _)⟩
        · cases ey
      · split at ey
        · rename_i hz
          cases ey
          obtain ⟨a, rfl⟩ := rep_ref (H := H1) (.rep rv) (.inr ⟨_, rfl⟩)
          have hz' := hz
          unfold okSh at hz'
          exact ⟨_, a, rfl, hz, rv.dp ok1.rel.fh (Bool.and_eq_true_iff.mp hz').1, o2 F1 L1 H1 (.refl _ _) ok1 _ (.str _)⟩
        · cases ey
      · cases ey
    · obtain ⟨x, H1, I1, r1, d, a, ex, hok, dp, q⟩ := hv
      subst ex
      unfold okSh at hok
      simp only [Bool.and_eq_true, decide_eq_true_eq] at hok
      obtain ⟨l1, l2⟩ := lay_ok 60 d hok.1
      obtain ⟨as, rd⟩ := Dp.reads I1 _ _ _ dp r1
      cases r1
      refine pyReprObj_of_reads rd hok.2.1 (PyData.noDict_hsm (PyData.hasDict_of_canLay _ l1)) hg (by omega) (fun _ _ e => e) (fun h' u tk hk => ?_) hok.2.2
      have J : Inv X pins σ H1 { s1 with heap := h', toks := tk } := I1.kept (t' := tk) hk
      exact wpAny_formatField_str ⟨.str (shD d), H1, J, ⟨_, rfl⟩, q⟩ ⟨.str (shD d), H1, J.tok _, ⟨_, rfl⟩, q⟩ hok.2.2⟩, bel_fmt he.bel⟩
end
end Pm

set_option maxHeartbeats 2000000
/-! Q37: f-strings joined, repr of an own object -/
namespace Pm
open PySem PyProof.Rows L2 He
section
variable {X : Cx} {G : Cl} {Wx : WX} {pos p : Pos} {e a : Expr} {f : Ev Res} {hf : Ev W} {c k : Nat} {fs : Fn} {z : Bool} {fa : Addr} {fd : FuncData} {ps : List Str}
inductive SJ (X : Cx) (G : Cl) (Wx : WX) : List Expr → List (Ev Res) → Prop
  | nil : SJ X G Wx [] []
  | cons {e : Expr} {f : Ev Res} {es : List Expr} {fs : List (Ev Res)} : SE X G Wx e f → SJ X G Wx es fs → SJ X G Wx (e :: es) (f :: fs)
/-- the texts one behind the other -/
def eJs : List (Ev Res) → Str → Ev Res
  | [], acc => fun st => some (.ok (.d (.str acc)), st)
  | f :: r, acc => (evD f).bind fun d => match d with
    | .str y => if (acc ++ y).length ≤ sizeLine then eJs r (acc ++ y) else Ev.fail
    | _ => Ev.fail
theorem bel_js : ∀ {es : List Expr} {fs : List (Ev Res)}, SJ X G Wx es fs → ∀ acc, Bel (eJs fs acc)
  | _, _, .nil, _ => .pure
  | _, _, .cons h r, acc => (bel_evD h.bel).bind fun d => by
    cases d with
    | str y =>
      dsimp only
      split
      · exact bel_js r _
      · exact .fail'
    | _ => exact .fail'
theorem pj_of : ∀ {es : List Expr} {fs : List (Ev Res)}, SJ X G Wx es fs → PJ X es (fs.map (tE X.K G Wx))
  | _, _, .nil => .nil
  | _, _, .cons h r => .cons h.pe (pj_of r)
theorem tJs_of : ∀ (fs : List (Ev Res)) (acc : Str) (σ : L2.St) (H : Hp) (Q : VK), tE X.K G Wx (eJs fs acc) σ H Q → tJs (fs.map (tE X.K G Wx)) acc σ H fun out H1 => Q (.str out) H1
  | [], acc, σ, H, Q, ⟨R, F, L, st, ok, o⟩ => o F L H (.refl _ _) ok _ (.str _)
  | f :: r, acc, σ, H, Q, ⟨R, F, L, st, ok, o⟩ => by
    refine tE_D ok (OutP.bind (f := evD f) o fun d st1 F1 L1 H1 x1 ok1 o1 v rv => ?_)
    cases d with
    | str y =>
      dsimp only at o1
      split at o1
      · rename_i hz
        cases rv
        exact ⟨y, rfl, hz, tJs_of r _ σ H1 Q ⟨R, F1, L1, st1, ok1, o1⟩⟩
      · exact o1.elim
    | _ => exact o1.elim
theorem se_joined {v1 v2 : Expr} {rest : List Expr} {fl : List (Ev Res)} (h : SJ X G Wx (v1 :: v2 :: rest) fl) : SE X G Wx (.JoinedStr (v1 :: v2 :: rest) pos) (eJs fl Str.empty) :=
  ⟨PE_imp (pe_joined (pj_of h)) fun σ H Q t => tJs_of fl _ σ H Q t, bel_js h _⟩
/-! ### repr(o) -/
def strOut (r : Res) : Option Res := match r with
  | .d (.str x) => some (.d (.str x))
  | _ => none
def eOwnRepr (fs : Fn) (c : Nat) (hf : Ev W) : Ev Res := hf.bind fun w => fun st => if isCls st.M c w then (eCallF fs [w] |>.bind fun r => Ev.lift (strOut r)) st else none
theorem bel_ownRepr (fb : FnB fs) (bf : Bel hf) : Bel (eOwnRepr fs c hf) := bf.bind fun w => fun st o st' hb e => by
  split at e
  · exact ((bel_callF fb [w]).bind fun r => .same fun st o st' e => by
      unfold Ev.lift at e; split at e <;> cases e; rfl) st o st' hb e
  · cases e
theorem se_ownRepr {p : Pos} (q : OwnM X.K (G.at_ c) "__repr__" fa) (F : FnZ z X.prog X.w X.K X.mg X.base (L2.CX X.prog X.w) k fa fd ps (spF X.K G.at_ ps.length fs)) (fb : FnB fs) (h2 : ps.length = 1) (hr : Room (k + 1) X.A) (hz : z = true → X.A.guards = some []) (tk : Takes X Wx) (hb : Binds X.K fd ps [])
    (wf : AsW f hf) (ha : SE X G Wx a f) (hg : Gl X "repr") (hm : X.mg "repr" = none) (he : starEach [a] X.env = (false, eval a X.env) :: starEach [] X.env := by rfl) (hpl : (backTo pos (starEach [] X.env)).any (·.1) = false := by rfl) :
    SE X G Wx (.Call (.Name "repr" p) [a] [] pos) (eOwnRepr fs c hf) :=
  ⟨⟨fun pins s σ H Q I ⟨R0, F0, L0, st, ok, o⟩ => by
    refine wpAny_Call_Name_kw (ld_blt I hg hm (by first | rfl | kernel_rfl) ?_)
    refine PyProof.Rows.callWith_builtin1 (thn ((pa_cons ha.pe pa_nil he).run pos pins s σ H (fun vs H1 => ∃ x R F L M w, vs = [x] ∧ Rel X.K G.at_ R F L M H1 ∧ RepW X.K G.at_ F L w x ∧ isCls M c w = true ∧ OutF X.K G.at_ R F L (fun v H' => ∃ i, v = .str i ∧ Q (.str i) H') (WE Wx σ) (fs [w] M)) I ?_)
      fun us s1 ⟨vs, H1, I1, r1, x, R, F1, L, M, w, ev, rel, rw1, hc, o1⟩ => ?_) he hpl
    · refine tE_of ok (wf.out (OutP.bind (f := hf) o fun w st1 F1 L1 H1 x1 ok1 o1 v rv => ?_))
      split at o1
      · rename_i hc
        refine ⟨v, R0, F1, L1, st1.M, w, rfl, ok1.rel, rv, hc, ?_⟩
        have o3 : OutP X.K G Wx R0 F1 L1 σ (fun r _ _ _ H3 => ∃ i, r = .d (.str i) ∧ Q (.str i) H3) (eCallF fs [w] st1) := OutP.bind (f := eCallF fs [w]) o1 fun r st3 F3 L3 H3 x3 ok3 o3 => by
          obtain ⟨r', er, o4⟩ := OutP.lift o3
          unfold strOut at er
          split at er
          · cases er; exact ⟨_, rfl, o4 F3 L3 H3 (.refl _ _) ok3 _ (.str _)⟩
          · cases er
        exact call_out (Q := fun v H' => ∃ i, v = .str i ∧ Q (.str i) H') ok1 o3 fun r st3 F3 L3 H3 v x3 ok3 ⟨i, ei, p⟩ rr => by
          subst ei; cases rr; exact ⟨i, rfl, p⟩
      · exact o1.elim
    · subst ev
      cases r1 with
      | cons r1 rn =>
        cases rn
        obtain ⟨a', dx, fl, rfl, ha'⟩ := isCls_ok rel rw1 hc
        cases r1
        obtain ⟨mA, J, _⟩ := ins_get I1.hok ha'
        obtain ⟨od, J, _⟩ := J.look
        obtain ⟨m, hF⟩ := I1.fr
        refine PySem.W.repr_K (A := X.A) hr.in1.units0 hF I1.ok.mod.kin J q.at_ q.fn (wpAny_mono (call_at (A := X.A.in1) rfl F hr.in1 hz tk hb (vs := [.ref a']) I1 (.cons rfl .nil) (by simp [h2]) rel (.cons rw1 .nil) o1) (fun v' s' hq => ?_) fun _ _ y => y)
        obtain ⟨z', H', I', rz, i, rfl, qz⟩ := hq
        obtain ⟨t, rfl⟩ := rz
        exact ⟨.str i, H', I', ⟨t, rfl⟩, qz⟩⟩, bel_ownRepr fb (wf.bel ha.bel)⟩
end
section
variable {Q : Res → S → Prop} {st : S} {f : Ev Res} {hf : Ev W} {fs : Fn} {c : Nat}
@[simp] theorem wp_fmt {g : D → Option D} : Wp (eFmt g f st) Q ↔ Wp (evD f st) fun d s => ∃ y, g d = some y ∧ Q (.d y) s := by
  unfold eFmt
  rw [wp_bind]
  constructor <;> intro hh <;> refine hh.mono fun d s z => ?_
  · obtain ⟨r, e, z⟩ := wp_lift.mp z
    obtain ⟨y, ey, rfl⟩ := Option.map_eq_some_iff.mp e
    exact ⟨y, ey, z⟩
  · obtain ⟨y, ey, z⟩ := z
    exact wp_lift.mpr ⟨_, by rw [ey]; rfl, z⟩
@[simp] theorem wp_js0 {acc : Str} : Wp (eJs [] acc st) Q ↔ Q (.d (.str acc)) st := Iff.rfl
@[simp] theorem wp_js {r : List (Ev Res)} {acc : Str} : Wp (eJs (f :: r) acc st) Q ↔ Wp (evD f st) fun d s => ∃ y, d = .str y ∧ (acc ++ y).length ≤ sizeLine ∧ Wp (eJs r (acc ++ y) s) Q := by
  rw [show eJs (f :: r) acc = (evD f).bind fun d => match d with
    | .str y => if (acc ++ y).length ≤ sizeLine then eJs r (acc ++ y) else Ev.fail
    | _ => Ev.fail from rfl, wp_bind]
  constructor <;> intro hh <;> refine hh.mono fun d s z => ?_
  · cases d <;> first | exact z.elim | skip
    rename_i y
    dsimp only at z
    split at z
    · exact ⟨y, rfl, by assumption, z⟩
    · exact z.elim
  · obtain ⟨y, rfl, h, z⟩ := z
    dsimp only
    rw [if_pos h]; exact z
@[simp] theorem wp_ownRepr : Wp (eOwnRepr fs c hf st) Q ↔ Wp (hf st) fun w s => isCls s.M c w = true ∧ Fw (fs [w] s.M) fun r M' => ∃ y, r = .d (.str y) ∧ Q (.d (.str y)) ⟨s.sl, M', s.b⟩ := by
  unfold eOwnRepr; rw [wp_bind]
  constructor <;> intro hx <;> refine hx.mono fun w s z => ?_
  · split at z
    · refine ⟨by assumption, ?_⟩
      rw [wp_bind, wp_callF] at z
      refine z.mono fun r M' z => ?_
      obtain ⟨r', e, z⟩ := wp_lift.mp z
      unfold strOut at e
      split at e
      · cases e; exact ⟨_, rfl, z⟩
      · cases e
    · exact z.elim
  · obtain ⟨h, z⟩ := z
    rw [if_pos h, wp_bind, wp_callF]
    refine z.mono fun r M' z => ?_
    obtain ⟨y, rfl, z⟩ := z
    exact wp_lift.mpr ⟨_, rfl, z⟩
end
end Pm

set_option maxHeartbeats 2000000
/-! Q38: for over a list that is still a cell -/
namespace Pm
open PySem PyProof.Rows L2 He
def datsAt (M : List (Option Cell)) (j : Nat) : Option (List D) := match M[j]? with
  | some (some (.lst ws)) => dats ws
  | _ => none
def fLoopL (j : Nat) (k : D → S → Option S) (body : Ev Fl) : Nat → Nat → Ev Fl
  | 0, _ => Ev.fail
  | n + 1, i => fun st => match datsAt st.M j with
    | none => none
    | some ds => match ds[i]? with
      | none => some (.ok .nx, st)
      | some d => match k d st with
        | none => none
        | some st' => (body.bind (fLoopGo (fLoopL j k body n (i + 1)))) st'
def forL (k : D → S → Option S) (body : Ev Fl) : Res → Ev Fl
  | .loc j => fun st => match datsAt st.M j with
    | some ds => fLoopL j k body (ds.length + 1) 0 st
    | none => none
  | .d d => (Ev.lift (itD d)).bind fun ds => fLoop k body ds
  | _ => Ev.fail
def fForL (f : Ev Res) (k : D → S → Option S) (body : Ev Fl) : Ev Fl := f.bind (forL k body)
theorem bel_loopL {j : Nat} {k : D → S → Option S} {body : Ev Fl} (ht : ∀ d st st', st.b ≤ st.M.length → k d st = some st' → Le st st') (hb : Bel body) : ∀ n i, Bel (fLoopL j k body n i)
  | 0, _ => .fail'
  | n + 1, i => fun st o st' hs e => by
    simp only [fLoopL] at e
    split at e
    · cases e
    · split at e
      · cases e; exact .refl _
      · split at e
        · cases e
        · rename_i st1 e1
          have l1 := ht _ _ _ hs e1
          exact l1.trans ((hb.bind (bel_go (bel_loopL ht hb n (i + 1)))) _ _ _ (l1.ok hs) e)
theorem datsAt_ok {K : PySem.W.Frag} {g : Nat → Addr} {R F H : Hp} {L : List Addr} {M : List (Option Cell)} {j : Nat} {a : Addr} {ds : List D} (rel : Rel K g R F L M H) (ha : L[j]? = some a) (h : datsAt M j = some ds) : ∃ vs, H a = some (.lst vs) ∧ Reps K g F ds vs := by
  unfold datsAt at h
  split at h
  · rename_i ws hc
    obtain ⟨b, hb, _, _, vs, hv, rs⟩ := rel.ce _ _ hc
    rw [ha] at hb; cases hb
    exact ⟨vs, hv, dats_rep rs h⟩
  · cases h
section
variable {X : Cx} {G : Cl} {Wx : WX} {pos : Pos}
/-- a loop over data, told of its iterator -/
theorem for_J {tg : Expr} {body : List Stmt} {k : D → S → Option S} {vs : List Nat} {fb : Ev Fl} {D0 : Ends} {R F1 : Hp} {L1 : List Addr} {σ : L2.St} {H1 : Hp} {st1 : S} {ds : List D} {J : It} (hg : SG X G tg k vs) (hb : SB X G Wx body fb)
    (ok1 : Ok X.K G R F1 L1 st1 σ H1) (o1 : OutS X.K G Wx R F1 L1 D0 (fLoop k fb ds st1)) (itok : ItOk X.K G.at_ F1 ds J) : tFor (fun _ H R => R J H) (tG X.K G k vs) (tS X.K G Wx fb) D0 σ H1 := by
  refine ⟨fun i m σ H => m = ds.length - i ∧ i ≤ ds.length ∧ ∃ F' L' st', Sub F1 F' ∧ Ok X.K G R F' L' st' σ H ∧ OutS X.K G Wx R F' L' D0 (fLoop k fb (ds.drop i) st'), ⟨_, rfl, Nat.zero_le _, F1, L1, st1, .refl _, ok1, o1⟩, ?_⟩
  rintro i m σ2 H2 ⟨rfl, hil, F2, L2, st2, s2, ok2, o2⟩
  obtain ⟨hgo, hstop⟩ := itok i R F2 L2 st2.M H2 s2 ok2.rel
  rcases Nat.lt_or_ge i ds.length with h | h
  · right
    have e : ds[i]? = some ds[i] := List.getElem?_eq_getElem h
    obtain ⟨g1, g2⟩ := hgo _ e
    refine ⟨g1, fun σ' H' => ∃ m', m' < ds.length - i ∧ m' = ds.length - (i + 1) ∧ i + 1 ≤ ds.length ∧ ∃ F' L' st', Sub F1 F' ∧ Ok X.K G R F' L' st' σ' H' ∧ OutS X.K G Wx R F' L' D0 (fLoop k fb (ds.drop (i + 1)) st'),
      fun σ' H' ⟨m', h1, h2, h3, h4⟩ => ⟨m', h1, h2, h3, h4⟩, fun x H3 hy => ?_⟩
    obtain ⟨F3, s3, rel3, r3⟩ := g2 x H3 hy
    rw [List.drop_eq_getElem_cons h] at o2
    simp only [fLoop] at o2
    have ok3 := ok2.with s3 rel3
    cases ek : k ds[i] st2 with
    | none => rw [ek] at o2; exact o2.elim
    | some st4 =>
      rw [ek] at o2
      refine ⟨R, F3, L2, st2, ds[i], st4, ok3, r3, ek, fun σ4 F4 H4 s4 _ ok4 => ⟨R, F4, L2, st4, ok4, OutS.seq (f := fb) (OutS.ext (.frz (s3.trans s4)) o2) fun fl st5 σ5 F5 L5 H5 x5 ok5 o5 => ?_⟩⟩
      have nxt : OutS X.K G Wx R F5 L5 D0 (fLoop k fb (ds.drop (i + 1)) st5) → ∃ m', m' < ds.length - i ∧ m' = ds.length - (i + 1) ∧ i + 1 ≤ ds.length ∧ ∃ F' L' st', Sub F1 F' ∧ Ok X.K G R F' L' st' σ5 H5 ∧ OutS X.K G Wx R F' L' D0 (fLoop k fb (ds.drop (i + 1)) st') :=
        fun q => ⟨_, by omega, rfl, by omega, F5, L5, st5, ((s2.trans s3).trans s4).trans x5.f, ok5, q⟩
      cases fl with
      | nx => exact nxt o5
      | ct => exact nxt o5
      | brk => exact o5 σ5 F5 L5 H5 (.refl _ _) ok5
      | ret r => exact o5 σ5 F5 L5 H5 (.refl _ _) ok5
  · left
    have e : i = ds.length := by omega
    refine ⟨hstop e, ?_⟩
    rw [List.drop_eq_nil_of_le h] at o2
    exact o2 σ2 F2 L2 H2 (.refl _ _) ok2
/-- a loop over a cell -/
theorem forL_J {tg : Expr} {body : List Stmt} {k : D → S → Option S} {vs : List Nat} {fb : Ev Fl} {D0 : Ends} {R F1 : Hp} {L1 : List Addr} {σ : L2.St} {H1 : Hp} {st1 : S} {j n : Nat} {a : Addr} (hg : SG X G tg k vs) (hb : SB X G Wx body fb)
    (ok1 : Ok X.K G R F1 L1 st1 σ H1) (ha : L1[j]? = some a) (o1 : OutS X.K G Wx R F1 L1 D0 (fLoopL j k fb n 0 st1)) : tFor (fun _ H R => R (Itl X.K a) H) (tG X.K G k vs) (tS X.K G Wx fb) D0 σ H1 := by
  refine ⟨fun i m σ H => ∃ F' L' st', L'[j]? = some a ∧ Ok X.K G R F' L' st' σ H ∧ OutS X.K G Wx R F' L' D0 (fLoopL j k fb m i st'), ⟨n, F1, L1, st1, ha, ok1, o1⟩, ?_⟩
  rintro i m σ2 H2 ⟨F2, L2, st2, ha2, ok2, o2⟩
  cases m with
  | zero => exact o2.elim
  | succ m =>
    simp only [fLoopL] at o2
    cases e1 : datsAt st2.M j with
    | none => rw [e1] at o2; exact o2.elim
    | some ds =>
      rw [e1] at o2
      obtain ⟨ws, hw, rs⟩ := datsAt_ok ok2.rel ha2 e1
      have sq : SqL X.K H2 a ws := SqL.of hw
      dsimp only at o2
      cases e2 : ds[i]? with
      | none =>
        rw [e2] at o2
        exact .inl ⟨⟨ws, sq, by rw [← rs.length]; exact List.getElem?_eq_none_iff.mp e2⟩, o2 σ2 F2 L2 H2 (.refl _ _) ok2⟩
      | some d =>
        rw [e2] at o2
        dsimp only at o2
        obtain ⟨v, hv, rv⟩ := rs.get e2
        right
        refine ⟨⟨ws, v, sq, hv⟩, fun σ' H' => ∃ F' L' st', L'[j]? = some a ∧ Ok X.K G R F' L' st' σ' H' ∧ OutS X.K G Wx R F' L' D0 (fLoopL j k fb m (i + 1) st'), fun σ' H' q => ⟨m, Nat.lt_succ_self _, q⟩, fun x H3 hy => ?_⟩
        obtain ⟨eH, hx⟩ := hy
        have hx' := hx ws sq
        rw [hv] at hx'; cases hx'
        subst eH
        cases ek : k d st2 with
        | none => rw [ek] at o2; exact o2.elim
        | some st4 =>
          rw [ek] at o2
          refine ⟨R, F2, L2, st2, d, st4, ok2, rv, ek, fun σ4 F4 H4 s4 _ ok4 => ⟨R, F4, L2, st4, ok4, OutS.seq (f := fb) (OutS.ext (.frz s4) o2) fun fl st5 σ5 F5 L5 H5 x5 ok5 o5 => ?_⟩⟩
          have nxt : OutS X.K G Wx R F5 L5 D0 (fLoopL j k fb m (i + 1) st5) → ∃ F' L' st', L'[j]? = some a ∧ Ok X.K G R F' L' st' σ5 H5 ∧ OutS X.K G Wx R F' L' D0 (fLoopL j k fb m (i + 1) st') :=
            fun q => ⟨F5, L5, st5, prefix_get x5.l ha2, ok5, q⟩
          cases fl with
          | nx => exact nxt o5
          | ct => exact nxt o5
          | brk => exact o5 σ5 F5 L5 H5 (.refl _ _) ok5
          | ret r => exact o5 σ5 F5 L5 H5 (.refl _ _) ok5
theorem bel_forL {k : D → S → Option S} {fb : Ev Fl} (hk : ∀ d st st', st.b ≤ st.M.length → k d st = some st' → Le st st') (hb : Bel fb) (r : Res) : Bel (forL k fb r) := by
  cases r with
  | loc j =>
    intro st o st' hs e
    simp only [forL] at e
    split at e
    · exact bel_loopL hk hb _ _ _ _ _ hs e
    · cases e
  | d x => exact Bel.bind .lift fun ds => bel_loop hk hb ds
  | new c => exact .fail'
  | ex c fs => exact .fail'
theorem ss_forL {tg iter : Expr} {body : List Stmt} {f : Ev Res} {k : D → S → Option S} {vs : List Nat} {fb : Ev Fl} (hp : PassesOwn (model X.prog X.w) X.A X.env X.xe) (hi : SE X G Wx iter f) (hg : SG X G tg k vs) (hb : SB X G Wx body fb)
    (hc : X.calm = true := by rfl) (hs : ∀ x, foldedSetIterable iter X.env x = pure x := by intro _; rfl) : SS X G Wx (.For tg iter body [] pos) (fForL f k fb) :=
  ⟨PS_imp (ps_for hp hc (pi_any hi.pe) hg.pg hb.pss hs) fun D0 σ H ⟨R, F, L, st, ok, o⟩ => ⟨R, F, L, st, ok, OutS.bind (f := f) o fun r st1 F1 L1 H1 x1 ok1 o1 v rv => by
    have other : ∀ (d : D) (F2 : Hp) (L2 : List Addr) (H2 : Hp) (st2 : S), Ok X.K G R F2 L2 st2 σ H2 → Rep X.K G.at_ F2 d v → OutS X.K G Wx R F2 L2 D0 (((Ev.lift (itD d)).bind fun ds => fLoop k fb ds) st2) →
        ((∃ a, v = .ref a ∧ (∃ xs, SqL X.K H2 a xs) ∧ tFor (fun _ H R => R (Itl X.K a) H) (tG X.K G k vs) (tS X.K G Wx fb) D0 σ H2) ∨ (∃ a, v = .ref a ∧ (∃ xs, SqT X.K H2 a xs) ∧ tFor (fun _ H R => R (Itt X.K a) H) (tG X.K G k vs) (tS X.K G Wx fb) D0 σ H2) ∨ ∃ z, v = .str z ∧ tFor (fun _ H R => R (Its z) H) (tG X.K G k vs) (tS X.K G Wx fb) D0 σ H2) := fun d F2 L2 H2 st2 ok2 rd o2 => by
      cases ei : itD d with
      | none => rw [ei] at o2; exact o2.elim
      | some ds =>
        rw [ei] at o2
        have o3 : OutS X.K G Wx R F2 L2 D0 (fLoop k fb ds st2) := o2
        cases rd <;> simp only [itD, seqD] at ei <;> cases ei
        · exact .inr (.inr ⟨_, rfl, for_J hg hb ok2 o3 its_ok⟩)
        · rename_i q t; exact .inr (.inl ⟨_, rfl, ⟨_, sub_t ok2.rel.fh q⟩, for_J hg hb ok2 o3 (itt_ok q t)⟩)
        · rename_i q t; exact .inl ⟨_, rfl, ⟨_, SqL.of (ok2.rel.fh _ _ q)⟩, for_J hg hb ok2 o3 (itl_ok (SqL.of q) t)⟩
        · rename_i q t; exact .inl ⟨_, rfl, ⟨_, sub_l ok2.rel.fh q⟩, for_J hg hb ok2 o3 (itl_ok q t)⟩
    cases r with
    | loc j =>
      obtain ⟨a, ha, rfl⟩ := rv
      simp only [forL] at o1
      cases e1 : datsAt st1.M j with
      | none => rw [e1] at o1; exact o1.elim
      | some ds =>
        rw [e1] at o1
        obtain ⟨ws, hw, rs⟩ := datsAt_ok ok1.rel ha e1
        exact .inl ⟨a, rfl, ⟨ws, SqL.of hw⟩, forL_J hg hb ok1 ha o1⟩
    | d x => exact other x F1 L1 H1 st1 ok1 rv o1
    | new c => exact o1.elim
    | ex c fs => exact o1.elim⟩, hi.bel.bind (bel_forL hg.bel hb.bel)⟩
end
end Pm

set_option maxHeartbeats 2000000
/-! Q39: facts of the classes of errors; one except clause for one class; x.upper() -/
namespace Pm
open PySem PyProof.Rows L2 He
/-! ### what a class of errors must be -/
def oexB (K : PySem.W.Frag) (C : Addr) : Bool := match K.lookup C with
  | some ⟨.type "type", _, .cls cd, sl⟩ => (match cd.mro, sl.toList with
    | .ref C' :: bm, [_, _, _, _, some (.builtin n), _] => decide (C' = C) && (decide (n = "ValueError.__new__") && (!cd.hasDel && (cd.hasDict && PySem.HandSPX.refsVE bm)))
    | _, _ => false)
  | _ => false
theorem oexB_ok {K : PySem.W.Frag} {C : Addr} (h : oexB K C = true) : ∃ nm q N bs bm sn sub ab col dd k0 k1 k2 k3 k5, K.lookup C = some (excClassObj nm q C N bs bm true sn sub ab col dd k0 k1 k2 k3 k5 "ValueError.__new__") ∧ PySem.HandSPX.refsVE bm = true := by
  unfold oexB at h
  split at h
  · rename_i dd cd sl ho
    split at h
    · rename_i C' bm k0 k1 k2 k3 n k5 hm hs
      obtain ⟨h1, h⟩ := ba h
      obtain ⟨h2, h⟩ := ba h
      obtain ⟨h3, h⟩ := ba h
      obtain ⟨h4, h5⟩ := ba h
      have e1 := of_decide_eq_true h1
      have e2 := of_decide_eq_true h2
      obtain ⟨nm, bs, mro, ns, qn, hd, sn, sub, ab, col, del⟩ := cd
      dsimp only at hm h3 h4
      have e3 : del = false := by simpa using h3
      subst hm e1 e2 e3 h4
      obtain ⟨l⟩ := sl
      dsimp only at hs
      subst hs
      exact ⟨nm, qn, ns, bs, bm, sn, sub, ab, col, dd, k0, k1, k2, k3, k5, ho, h5⟩
    · cases h
  · cases h
/-- a class of errors with one field -/
structure Xc (K : PySem.W.Frag) (C : Addr) (f : Str) (fi : Addr) : Prop where
  ox : OexC K C
  no : PySem.W.findIn K (.ref C) f = some none
  ini : PySem.W.findIn K (.ref C) "__init__" = some (some (.ref fi))
  ty : PySem.W.typeIn K (.ref fi) = some (.type "function")
  xf : XfC K C
  is : IsE K C
def isEB (K : PySem.W.Frag) (C : Addr) : Bool := (PySem.W.clsIn K C).isSome && (eqO (PySem.W.findIn K (.ref C) "__class__") (some (some (.builtin "object.__class__"))) && (eqO (PySem.W.specialIn K (.builtin "object.__class__") "__get__") (some (some (.builtin "getset_descriptor.__get__"))) &&
  (decide (PySem.W.takesIn K (.builtin "object.__class__") = some true) && decide (PySem.W.mroIn K C (.type "object") = some true))))
def xcB (K : PySem.W.Frag) (C : Addr) (f : Str) (fi : Addr) : Bool := oexB K C && (eqO (PySem.W.findIn K (.ref C) "__setattr__") (some (some (.builtin "object.__setattr__"))) && (decide (PySem.W.typeIn K (.ref C) = some (.type "type")) && (PySem.W.keepIn K (.ref C) &&
  (eqO (PySem.W.findIn K (.ref C) f) (some none) && (eqO (PySem.W.findIn K (.ref C) "__init__") (some (some (.ref fi))) && (decide (PySem.W.typeIn K (.ref fi) = some (.type "function")) && (xfB K C && isEB K C)))))))
theorem xcB_ok {K : PySem.W.Frag} {C : Addr} {f : Str} {fi : Addr} (h : xcB K C f fi = true) : Xc K C f fi := by
  obtain ⟨h1, h⟩ := ba h
  obtain ⟨h2, h⟩ := ba h
  obtain ⟨h3, h⟩ := ba h
  obtain ⟨h4, h⟩ := ba h
  obtain ⟨h5, h⟩ := ba h
  obtain ⟨h6, h⟩ := ba h
  obtain ⟨h7, h⟩ := ba h
  obtain ⟨h8, h⟩ := ba h
  have x := xfB_ok h8
  unfold isEB at h
  obtain ⟨i1, h⟩ := ba h
  obtain ⟨i2, h⟩ := ba h
  obtain ⟨i3, h⟩ := ba h
  obtain ⟨i4, i5⟩ := ba h
  exact ⟨⟨oexB_ok h1, eqO_ok h2, x.exC, of_decide_eq_true h3, h4⟩, eqO_ok h5, eqO_ok h6, of_decide_eq_true h7, x, ⟨i1, x.ga, x.gg, x.exC, eqO_ok i2, eqO_ok i3, of_decide_eq_true i4, of_decide_eq_true i5⟩⟩
def exmB (K : PySem.W.Frag) (a b : Value) (r : Bool) : Bool := decide (PySem.W.exmOne K a b = some r)
theorem exmB_ok {K : PySem.W.Frag} {a b : Value} {r : Bool} (h : exmB K a b r = true) : PySem.W.exmOne K a b = some r := of_decide_eq_true h
def kitB (K : PySem.W.Frag) (a b : Value) (r : Bool) : Bool := decide (PySem.W.kitOne K a b = some r)
theorem kitB_ok {K : PySem.W.Frag} {a b : Value} {r : Bool} (h : kitB K a b r = true) : PySem.W.kitOne K a b = some r := of_decide_eq_true h
section
variable {X : Cx} {G : Cl} {Wx : WX} {pos p apos : Pos} {o : Expr} {f : Ev Res} {c i : Nat} {x n : Str} {np pos' : Pos} {body suite : List Stmt} {b₀ : Stmt} {cv : Value} {fb fs : Ev Fl}
/-- one class of errors is expected -/
def tab1 (c : Nat) : Nat → Option Bool := fun c' => if c' = c then some true else none
theorem tab1_eq {c c' : Nat} {b : Bool} (h : tab1 c c' = some b) : c' = c ∧ b = true := by
  unfold tab1 at h
  split at h
  · cases h; exact ⟨by assumption, rfl⟩
  · cases h
theorem ss_try1 (c : Nat) (hN : X.N.Nodup) (tk : Takes X Wx) (hcv : Names X x cv) (he : PySem.W.exmOne X.K (.ref (G.at_ c)) cv = some true)
    (hb : ∀ (W : WX) (pn : List (Addr × Obj)) (xe : Value → Shared → Prop), Takes (X.tr pn xe) W → PassesOwn (model X.prog X.w) X.A X.env xe → SB (X.tr pn xe) G W body fb)
    (hsu : ∀ (a dd : Addr) (oe : Obj) (pn : List (Addr × Obj)), Zc (.ref (G.at_ c)) (some dd) oe → (∃ vs, oe.data = .fields vs) → SB (X.suite a ((a, oe) :: pn)) ⟨G.at_, a, dd⟩ (fun _ _ _ _ => False) (b₀ :: suite) fs)
    (hi : X.N[i]? = some n := by rfl) (hln : X.env.kindOf n = some .local := by rfl) (hs : X.stack = X.env :: X.outer := by rfl) (hf : X.env.frame = some X.env.locals := by rfl) :
    SS X G Wx (.Try body [.ExceptHandler (some (.Name x np)) (some n) (b₀ :: suite) pos'] [] [] pos) (fTry (tab1 c) i fb fun _ => fs) :=
  ss_try hN tk hcv (fun c' b h => by
    obtain ⟨rfl, rfl⟩ := tab1_eq h
    exact he) hb (fun c' h => by
    obtain ⟨rfl, _⟩ := tab1_eq h
    exact hsu) hi hln hs hf
/-! ### x.upper() -/
def upD : D → Option Res
  | .str a => if a.length ≤ 1000000 then some (.d (.str (Txt.upper a))) else none
  | _ => none
def eUp (f : Ev Res) : Ev Res := (evD f).bind fun d => Ev.lift (upD d)
theorem se_upper (ho : SE X G Wx o f) (hbase : attributeBase o "upper" X.env (eval o X.env) = eval o X.env := by rfl) (hline : (apos.endLine == pos.line) = true := by rfl) : SE X G Wx (.Call (.Attribute o "upper" apos) [] [] pos) (eUp f) :=
  ⟨⟨fun pins s σ H Q I ⟨R, F, L, st, ok, t⟩ => by
    refine J1.ev_upper hbase hline (wpAny_mono (ho.pe.run pins s σ H (fun x H1 => ∃ a : Str, x = .str a ∧ a.length ≤ 1000000 ∧ Q (.str (Txt.upper a)) H1) I ?_) (fun v s1 hv => ?_) fun _ _ z => z)
    · refine tE_D ok (OutP.bind (f := evD f) t fun d st1 F1 L1 H1 x1 ok1 o1 v rv => ?_)
      obtain ⟨r, er, o2⟩ := OutP.lift o1
      unfold upD at er
      split at er
      · split at er
        · rename_i hz
          cases er; cases rv
          exact ⟨_, rfl, hz, o2 F1 L1 H1 (.refl _ _) ok1 _ (.str _)⟩
        · cases er
      · cases er
    · obtain ⟨x, H1, I1, r1, a, rfl, hz, q⟩ := hv
      obtain ⟨tz, rfl⟩ := r1
      exact ⟨a, tz, rfl, by omega, fun t' k => ⟨.str _, H1, I1.kept (t' := k) fun _ _ z => z, ⟨_, rfl⟩, q⟩⟩⟩, (bel_evD ho.bel).bind fun d => .lift⟩
end
section
variable {Q : Res → S → Prop} {QF : Fl → S → Prop} {st : S} {f : Ev Res}
@[simp] theorem wp_up : Wp (eUp f st) Q ↔ Wp (evD f st) fun d s => ∃ a, d = .str a ∧ a.length ≤ 1000000 ∧ Q (.d (.str (Txt.upper a))) s := by
  unfold eUp
  rw [wp_bind]
  constructor <;> intro hh <;> refine hh.mono fun d s z => ?_
  · obtain ⟨r, e, z⟩ := wp_lift.mp z
    unfold upD at e
    split at e
    · split at e
      · cases e; exact ⟨_, rfl, by assumption, z⟩
      · cases e
    · cases e
  · obtain ⟨a, rfl, h, z⟩ := z
    exact wp_lift.mpr ⟨_, if_pos h, z⟩
end
end Pm

set_option maxHeartbeats 2000000
/-! Q40: plain reasoning with errors; keywords in another order; the def of an error's class -/
namespace Pm
open PySem PyProof.Rows L2 He
/-! ### it ends with an error -/
def Wxc {α : Type} (o : Option (Out α × S)) (E : Exc → S → Prop) : Prop := match o with
  | some (.exc x, st) => E x st
  | _ => False
@[irreducible] def Fxc (o : Option (Out Res × List (Option Cell))) (E : Exc → List (Option Cell) → Prop) : Prop := match o with
  | some (.exc x, M) => E x M
  | _ => False
theorem Wxc.mono {α : Type} {o : Option (Out α × S)} {E E' : Exc → S → Prop} (h : Wxc o E) (k : ∀ x s, E x s → E' x s) : Wxc o E' := by
  unfold Wxc at h ⊢
  split at h
  · exact k _ _ h
  · exact h.elim
theorem Fxc.mono {o : Option (Out Res × List (Option Cell))} {E E' : Exc → List (Option Cell) → Prop} (h : Fxc o E) (k : ∀ x s, E x s → E' x s) : Fxc o E' := by
  unfold Fxc at h ⊢
  split at h
  · exact k _ _ h
  · exact h.elim
section
variable {α β : Type} {E : Exc → S → Prop} {EM : Exc → List (Option Cell) → Prop} {st : S} {M : List (Option Cell)} {fa fk : Ev (List W)} {fs : Fn} {gW : List W → List W → List W} {n m c : Nat}
theorem wxc_bind {f : Ev β} {k : β → Ev α} : Wxc (Ev.bind f k st) E ↔ Wxc (f st) E ∨ Wp (f st) fun b s => Wxc (k b s) E := by
  unfold Ev.bind Wp Wxc
  cases e : f st with
  | none => simp
  | some p =>
    obtain ⟨o, s⟩ := p
    cases o <;> simp
theorem wxc_l {f : Ev β} {k : β → Ev α} (h : Wxc (f st) E) : Wxc (Ev.bind f k st) E := wxc_bind.mpr (.inl h)
theorem wxc_r {f : Ev β} {k : β → Ev α} (h : Wp (f st) fun b s => Wxc (k b s) E) : Wxc (Ev.bind f k st) E := wxc_bind.mpr (.inr h)
theorem wxc_callF {ws : List W} : Wxc (eCallF fs ws st) E ↔ Fxc (fs ws st.M) fun x M' => E x ⟨st.sl, M', st.b⟩ := by
  unfold eCallF Fxc Wxc
  cases fs ws st.M with
  | none => exact Iff.rfl
  | some p => obtain ⟨o, M'⟩ := p; cases o <;> exact Iff.rfl
theorem fxc_fn {N : Nat} {body : Ev Fl} {ws : List W} : Fxc (fnOf N body ws M) EM ↔ Wxc (body ⟨ws.map .w ++ List.replicate (N - ws.length) .no, M, M.length⟩) fun x s => EM x (s.M.take M.length) := by
  unfold fnOf Fxc Wxc
  cases body ⟨ws.map .w ++ List.replicate (N - ws.length) .no, M, M.length⟩ with
  | none => exact Iff.rfl
  | some p =>
    obtain ⟨o, s⟩ := p
    cases o with
    | exc x => exact Iff.rfl
    | ok fl =>
      cases fl with
      | nx => exact Iff.rfl
      | brk => exact Iff.rfl
      | ct => exact Iff.rfl
      | ret r =>
        dsimp only
        cases e : retR M.length s.M r <;> exact Iff.rfl
theorem fxc_mk {args : W → List W} {ws : List W} : Fxc (mkF c fs args ws M) EM ↔ Fxc (fs (args (.loc M.length)) (M ++ [some (.ins c [])])) fun x M' => EM x (M'.take M.length) := by
  unfold mkF Fxc
  cases fs (args (.loc M.length)) (M ++ [some (.ins c [])]) with
  | none => exact Iff.rfl
  | some p =>
    obtain ⟨o, M'⟩ := p
    cases o with
    | exc x => exact Iff.rfl
    | ok r =>
      constructor
      · intro z
        cases r with
        | d y =>
          cases y with
          | non =>
            dsimp only at z
            cases e : M'[M.length]? with
            | none => rw [e] at z; exact z
            | some q =>
              rw [e] at z
              cases q with
              | none => exact z
              | some c' =>
                dsimp only at z
                cases eb : c'.belowB M.length with
                | false => rw [eb] at z; exact z
                | true => rw [eb] at z; exact z
          | _ => exact z
        | _ => exact z
      · exact fun z => z.elim
theorem wxc_make (h : Wp (fa st) fun ws s => Wp (fk s) fun us s' => (ws.length + 1 = n ∧ us.length = m) ∧ Fxc (mkF c fs (fun x => gW (x :: ws) us) [] s'.M) fun x M' => E x ⟨s'.sl, M', s'.b⟩) : Wxc (eMake c fs gW n m fa fk st) E := by
  unfold eMake
  refine wxc_r (h.mono fun ws s z => wxc_r (z.mono fun us s' z => ?_))
  rw [if_pos z.1]
  exact wxc_callF.mpr z.2
theorem wxc_callK (h : Wp (fa st) fun ws s => Wp (fk s) fun us s' => (ws.length = n ∧ us.length = m) ∧ Fxc (fs (gW ws us) s'.M) fun x M' => E x ⟨s'.sl, M', s'.b⟩) : Wxc (eCallK fs gW n m fa fk st) E := by
  unfold eCallK
  refine wxc_r (h.mono fun ws s z => wxc_r (z.mono fun us s' z => ?_))
  rw [if_pos z.1]
  exact wxc_callF.mpr z.2
theorem wxc_meth {fo : Ev W} {nm : Str} (h : Wp (fo st) fun w s => isInsB s.M c nm w = true ∧ Wp (fa s) fun ws s1 => Wp (fk s1) fun us s' => ((w :: ws).length = n ∧ us.length = m) ∧ Fxc (fs (gW (w :: ws) us) s'.M) fun x M' => E x ⟨s'.sl, M', s'.b⟩) : Wxc (eMeth fs gW c nm n m fo fa fk st) E := by
  unfold eMeth
  refine wxc_r (h.mono fun w s z => ?_)
  rw [if_pos z.1]
  refine wxc_r (z.2.mono fun ws s1 z => wxc_r (z.mono fun us s' z => ?_))
  rw [if_pos z.1]
  exact wxc_callF.mpr z.2
variable {p q : Ev Fl} {QF : Fl → S → Prop}
theorem wxc_seq : Wxc (fSeq p q st) E ↔ Wxc (p st) E ∨ Wp (p st) fun fl s => fl = .nx ∧ Wxc (q s) E := by
  unfold fSeq
  rw [wxc_bind]
  constructor <;> rintro (h | h)
  · exact .inl h
  · refine .inr (h.mono fun fl s z => ?_)
    cases fl <;> first | exact ⟨rfl, z⟩ | exact z.elim
  · exact .inl h
  · refine .inr (h.mono fun fl s z => ?_)
    obtain ⟨rfl, z⟩ := z
    exact z
theorem wxc_fif {t : Ev Bool} : Wxc (fIf t p q st) E ↔ Wxc (t st) E ∨ Wp (t st) fun c s => if c then Wxc (p s) E else Wxc (q s) E := by
  unfold fIf
  rw [wxc_bind]
  constructor <;> rintro (h | h)
  · exact .inl h
  · refine .inr (h.mono fun c s z => ?_)
    cases c <;> simpa using z
  · exact .inl h
  · refine .inr (h.mono fun c s z => ?_)
    cases c <;> simpa using z
theorem wxc_raise {f : Str} : Wxc (fRaise c f fa st) E ↔ Wxc (fa st) E ∨ Wp (fa st) fun ws s => ∃ d, ws = [.d d] ∧ E ⟨c, [(f, d)]⟩ s := by
  unfold fRaise
  rw [wxc_bind]
  constructor <;> rintro (h | h)
  · exact .inl h
  · refine .inr (h.mono fun ws s z => ?_)
    match ws, z with
    | [.d d], z => exact ⟨d, rfl, z⟩
    | [], z => exact z.elim
    | .loc _ :: _, z => exact z.elim
    | .d _ :: _ :: _, z => exact z.elim
  · exact .inl h
  · refine .inr (h.mono fun ws s z => ?_)
    obtain ⟨d, rfl, z⟩ := z
    exact z
theorem wxc_expr {f : Ev Res} (h : Wxc (f st) E) : Wxc (fExpr f st) E := wxc_l h
theorem wxc_ret {f : Ev Res} (h : Wxc (f st) E) : Wxc (fRet f st) E := wxc_l h
theorem wxc_set {i : Nat} {f : Ev W} (h : Wxc (f st) E) : Wxc (fSet i f st) E := wxc_l h
theorem wxc_evW {f : Ev Res} (h : Wxc (f st) E) : Wxc (evW f st) E := wxc_l h
/-! try -/
variable {tab : Nat → Option Bool} {i : Nat} {fb : Ev Fl} {fx : Nat → Ev Fl}
theorem wp_try0 (h : Wp (fb st) QF) : Wp (fTry tab i fb fx st) QF := by
  obtain ⟨fl, s, e, q⟩ := h.get
  unfold fTry
  rw [e]
  exact q
theorem wp_try1 (h : Wxc (fb st) fun x s => tab x.c = some true ∧ (noEx s.sl = true ∧ i < s.sl.length) ∧ Wp (fx x.c ⟨s.sl.set i (.ex x.c x.fs), s.M, s.b⟩) fun fl s2 => (flOk fl = true ∧ noEx (s2.sl.set i .no) = true) ∧ QF fl ⟨s2.sl.set i .no, s2.M, s2.b⟩) : Wp (fTry tab i fb fx st) QF := by
  unfold Wxc at h
  split at h
  · rename_i x s e
    obtain ⟨h1, ⟨h2, h3⟩, h⟩ := h
    obtain ⟨fl, s2, e2, ⟨h4, h5⟩, q⟩ := h.get
    unfold fTry
    rw [e]
    dsimp only
    rw [h1]
    dsimp only
    rw [if_pos (by rw [h2]; simpa using h3)]
    unfold behind
    rw [e2]
    dsimp only
    rw [if_pos (by rw [h4, h5]; rfl)]
    exact q
  · exact h.elim
theorem wxc_try {h : Wxc (fb st) fun x s => tab x.c = some false ∧ E x s} : Wxc (fTry tab i fb fx st) E := by
  unfold Wxc at h
  split at h
  · rename_i x s e
    unfold fTry
    rw [e]
    dsimp only
    rw [h.1]
    exact h.2
  · exact h.elim
/-! loops -/
variable {k : D → S → Option S} {body : Ev Fl}
theorem wxc_loop (Inv : Nat → S → Prop) {ds : List D} {j0 : Nat} (hj : j0 < ds.length) (h0 : Inv 0 st) (step : ∀ i d s, i < j0 → ds[i]? = some d → Inv i s → ∃ s', k d s = some s' ∧ Wp (body s') fun fl s2 => match fl with
    | .nx => Inv (i + 1) s2
    | .ct => Inv (i + 1) s2
    | _ => False) (fin : ∀ d s, ds[j0]? = some d → Inv j0 s → ∃ s', k d s = some s' ∧ Wxc (body s') E) : Wxc (fLoop k body ds st) E := by
  have key : ∀ (n i : Nat) (s : S), j0 - i = n → i ≤ j0 → Inv i s → Wxc (fLoop k body (ds.drop i) s) E := by
    intro n
    induction n with
    | zero =>
      intro i s hn hi h
      obtain rfl : i = j0 := by omega
      rw [List.drop_eq_getElem_cons hj]
      obtain ⟨s', e, w⟩ := fin ds[i] s (List.getElem?_eq_getElem hj) h
      simp only [fLoop]
      rw [e]
      exact wxc_l w
    | succ n ih =>
      intro i s hn hi h
      have hl : i < ds.length := by omega
      rw [List.drop_eq_getElem_cons hl]
      obtain ⟨s', e, w⟩ := step i ds[i] s (by omega) (List.getElem?_eq_getElem hl) h
      simp only [fLoop]
      rw [e]
      refine wxc_r (w.mono fun fl s2 z => ?_)
      cases fl with
      | nx => exact ih (i + 1) s2 (by omega) (by omega) z
      | ct => exact ih (i + 1) s2 (by omega) (by omega) z
      | brk => exact z.elim
      | ret r => exact z.elim
  have := key _ 0 st rfl (Nat.zero_le _) h0
  simpa using this
theorem wxc_for {fi : Ev (List D)} (h : Wp (fi st) fun ds s => Wxc (fLoop k body ds s) E) : Wxc (fFor fi k body st) E := wxc_r h
/-- what a loop goes through -/
def srcR (M : List (Option Cell)) : Res → Option (List D)
  | .loc j => datsAt M j
  | .d x => itD x
  | _ => none
theorem forL_wp (r : Res) {ds : List D} (Inv : Nat → S → Prop) (hI : ∀ i s, Inv i s → srcR s.M r = some ds) (h0 : Inv 0 st) (step : ∀ i d s, ds[i]? = some d → Inv i s → ∃ s', k d s = some s' ∧ Wp (body s') fun fl s2 => match fl with
    | .nx => Inv (i + 1) s2
    | .ct => Inv (i + 1) s2
    | .brk => QF .nx s2
    | .ret r => QF (.ret r) s2) (fin : ∀ s, Inv ds.length s → QF .nx s) : Wp (forL k body r st) QF := by
  have e0 := hI 0 st h0
  cases r with
  | d x =>
    simp only [srcR] at e0
    simp only [forL]
    rw [wp_bind]
    exact wp_lift.mpr ⟨ds, e0, wp_loop Inv h0 step fin⟩
  | loc j =>
    simp only [srcR] at e0
    simp only [forL]
    rw [e0]
    dsimp only
    have key : ∀ (n i : Nat) (s : S), ds.length + 1 = i + n → i ≤ ds.length → Inv i s → Wp (fLoopL j k body n i s) QF := by
      intro n
      induction n with
      | zero => intro i s h1 h2; omega
      | succ n ih =>
        intro i s h1 h2 h
        have e1 : datsAt s.M j = some ds := hI i s h
        simp only [fLoopL]
        rw [e1]
        dsimp only
        rcases Nat.lt_or_ge i ds.length with hl | hl
        · obtain ⟨s', e, w⟩ := step i ds[i] s (List.getElem?_eq_getElem hl) h
          rw [List.getElem?_eq_getElem hl]
          dsimp only
          rw [e]
          dsimp only
          rw [wp_bind]
          refine w.mono fun fl s2 z => ?_
          cases fl with
          | nx => exact ih (i + 1) s2 (by omega) (by omega) z
          | ct => exact ih (i + 1) s2 (by omega) (by omega) z
          | brk => exact z
          | ret r => exact z
        · obtain rfl : i = ds.length := by omega
          rw [List.getElem?_eq_none_iff.mpr (Nat.le_refl _)]
          exact fin s h
    exact key _ 0 st (by omega) (Nat.zero_le _) h0
  | new c => simp only [srcR] at e0; cases e0
  | ex c fs => simp only [srcR] at e0; cases e0
theorem forL_wxc (r : Res) {ds : List D} {j0 : Nat} (hj : j0 < ds.length) (Inv : Nat → S → Prop) (hI : ∀ i s, Inv i s → srcR s.M r = some ds) (h0 : Inv 0 st) (step : ∀ i d s, i < j0 → ds[i]? = some d → Inv i s → ∃ s', k d s = some s' ∧ Wp (body s') fun fl s2 => match fl with
    | .nx => Inv (i + 1) s2
    | .ct => Inv (i + 1) s2
    | _ => False) (fin : ∀ d s, ds[j0]? = some d → Inv j0 s → ∃ s', k d s = some s' ∧ Wxc (body s') E) : Wxc (forL k body r st) E := by
  have e0 := hI 0 st h0
  cases r with
  | d x =>
    simp only [srcR] at e0
    simp only [forL]
    refine wxc_r (wp_lift.mpr ⟨ds, e0, wxc_loop Inv hj h0 step fin⟩)
  | loc j =>
    simp only [srcR] at e0
    simp only [forL]
    rw [e0]
    dsimp only
    have key : ∀ (n i : Nat) (s : S), ds.length + 1 = i + n → i ≤ j0 → Inv i s → Wxc (fLoopL j k body n i s) E := by
      intro n
      induction n with
      | zero => intro i s h1 h2; omega
      | succ n ih =>
        intro i s h1 h2 h
        have e1 : datsAt s.M j = some ds := hI i s h
        simp only [fLoopL]
        rw [e1]
        dsimp only
        have hl : i < ds.length := by omega
        rw [List.getElem?_eq_getElem hl]
        dsimp only
        rcases Nat.lt_or_ge i j0 with hl2 | hl2
        · obtain ⟨s', e, w⟩ := step i ds[i] s hl2 (List.getElem?_eq_getElem hl) h
          rw [e]
          refine wxc_r (w.mono fun fl s2 z => ?_)
          cases fl with
          | nx => exact ih (i + 1) s2 (by omega) (by omega) z
          | ct => exact ih (i + 1) s2 (by omega) (by omega) z
          | brk => exact z.elim
          | ret r => exact z.elim
        · obtain rfl : i = j0 := by omega
          obtain ⟨s', e, w⟩ := fin ds[i] s (List.getElem?_eq_getElem hl) h
          rw [e]
          exact wxc_l w
    exact key _ 0 st (by omega) (Nat.zero_le _) h0
  | new c => simp only [srcR] at e0; cases e0
  | ex c fs => simp only [srcR] at e0; cases e0
@[simp] theorem wp_forL {f : Ev Res} : Wp (fForL f k body st) QF ↔ Wp (f st) fun r s => Wp (forL k body r s) QF := by unfold fForL; rw [wp_bind]
theorem wxc_forL {f : Ev Res} (h : Wp (f st) fun r s => Wxc (forL k body r s) E) : Wxc (fForL f k body st) E := wxc_r h
/-! in the suite -/
variable {Q : Res → S → Prop} {h : Ev Res} {b : Bool}
@[simp] theorem wp_xf {f : Str} : Wp (eXf c f h st) Q ↔ Wp (h st) fun r s => ∃ fs, r = .ex c fs ∧ ∃ d, fs.lookup f = some d ∧ Q (.d d) s := by
  unfold eXf
  rw [wp_bind]
  constructor <;> intro hh <;> refine hh.mono fun r s z => ?_
  · cases r with
    | ex c' fs =>
      dsimp only at z
      split at z
      · rename_i hc
        subst hc
        obtain ⟨x, e, z⟩ := wp_lift.mp z
        obtain ⟨d, e2, rfl⟩ := Option.map_eq_some_iff.mp e
        exact ⟨fs, rfl, d, e2, z⟩
      · exact z.elim
    | _ => exact z.elim
  · obtain ⟨fs, rfl, d, e, z⟩ := z
    dsimp only
    rw [if_pos rfl]
    exact wp_lift.mpr ⟨_, by rw [e]; rfl, z⟩
@[simp] theorem wp_isE : Wp (eIsE c b h st) Q ↔ Wp (h st) fun r s => (∃ fs, r = .ex c fs) ∧ Q (.d (.bl b)) s := by
  unfold eIsE
  rw [wp_bind]
  constructor <;> intro hh <;> refine hh.mono fun r s z => ?_
  · cases r with
    | ex c' fs =>
      dsimp only at z
      split at z
      · rename_i hc
        subst hc
        exact ⟨⟨fs, rfl⟩, z⟩
      · exact z.elim
    | _ => exact z.elim
  · obtain ⟨⟨fs, rfl⟩, z⟩ := z
    dsimp only
    rw [if_pos rfl]
    exact z
end
/-! ### keywords that are written the other way round -/
def gRev {α : Type} (us ws : List α) : List α := us ++ ws.reverse
@[simp] theorem len_gRev {α : Type} (us ws : List α) : (gRev us ws).length = us.length + ws.length := by simp [gRev]
theorem RepWs.rev {K : PySem.W.Frag} {g : Nat → Addr} {F : Hp} {L : List Addr} : ∀ {ws : List W} {vs : List V}, RepWs K g F L ws vs → RepWs K g F L ws.reverse vs.reverse
  | _, _, .nil => .nil
  | _, _, .cons r rs => by
    rw [List.reverse_cons, List.reverse_cons]
    exact (RepWs.rev rs).append (.cons r .nil)
theorem vals_app : ∀ {vs vs' : List V} {us us' : List Value}, Vals vs us → Vals vs' us' → Vals (vs ++ vs') (us ++ us')
  | _, _, _, _, .nil, h => h
  | _, _, _, _, .cons a r, h => .cons a (vals_app r h)
theorem vals_rev : ∀ {vs : List V} {us : List Value}, Vals vs us → Vals vs.reverse us.reverse
  | _, _, .nil => .nil
  | _, _, .cons r rs => by
    rw [List.reverse_cons, List.reverse_cons]
    exact vals_app (vals_rev rs) (.cons r .nil)
theorem bd_kr {K : PySem.W.Frag} {g : Nat → Addr} {x qual : Str} {params : Arguments} {body : List Stmt} {scope : Scope} {kws : List (Str × V)} {f : Addr} {fd : FuncData} {ps ks : List Str} {n : Nat} (F : FunD K x qual params body scope [] kws f fd)
    (h : ∀ (kV doc pm : Value) (an : Option Addr) (cdv ct : Value) (us ws : List Value), us.length = n → ws.length = ks.length → bindArgs (PySem.W.fnOf x qual params body scope .none kV doc pm an cdv ct) ⟨us, ks.zip ws⟩ = pure (ps.zip (us ++ ws.reverse))) : Bd K g fd ps n ks gRev := by
  obtain ⟨oc, od, dV, kV, doc, pm, an, cdv, ct, osl, rfl, _, _, hd, _⟩ := F.ex
  obtain rfl : dV = .none := by
    rcases hd with ⟨_, h⟩ | ⟨h, _⟩
    · exact h
    · exact absurd rfl h
  exact ⟨gRev, gRev, ⟨fun s us ws _ h1 h2 => .of_eq (h _ _ _ _ _ _ us ws h1 h2), fun r1 r2 => vals_app r1 (vals_rev r2)⟩, fun _ _ _ _ _ _ r1 r2 => r1.append r2.rev⟩
/-! ### the def of an error's class: self.f = x -/
theorem spI_len {K : PySem.W.Frag} {f : Str} {vs : List V} {H : Hp} {Q : VK} {E : XK} (h : spI K f vs H Q E) : vs.length = 2 := by
  obtain ⟨a, C, y, rfl, _⟩ := h
  rfl
end Pm

set_option maxHeartbeats 2000000
/-! Q41: how data look is a text of possible signs -/
namespace Pm
open PySem PyProof.Rows L2 He
theorem strOk_iff {w : Str} : PyData.strOk w = true ↔ ∀ c ∈ w.cps.toList, c < 0x110000 := by
  unfold PyData.strOk
  rw [Array.all_eq_true_iff_forall_mem]
  simp
theorem app_cps (a b : Str) : (a ++ b).cps.toList = a.cps.toList ++ b.cps.toList := by
  show (a.cps ++ b.cps).toList = _
  simp
theorem strOk_app {a b : Str} (h1 : PyData.strOk a = true) (h2 : PyData.strOk b = true) : PyData.strOk (a ++ b) = true := by
  rw [strOk_iff] at *
  intro c hc
  rw [app_cps] at hc
  rcases List.mem_append.mp hc with q | q
  · exact h1 c q
  · exact h2 c q
theorem char_lt (c : Char) : c.toNat < 0x110000 := by
  have := c.valid
  rcases this with h | h
  · have : c.toNat < 0xd800 := h
    omega
  · exact h.2
theorem strOk_lit (s : String) : PyData.strOk (s : Str) = true := by
  rw [strOk_iff]
  intro c hc
  have e : ((s : Str)).cps.toList = s.toList.map Char.toNat := by
    rw [show (s : Str) = ⟨(s.toList.map Char.toNat).toArray⟩ from Str.ofString_eq_toList s]
  rw [e] at hc
  obtain ⟨d, _, rfl⟩ := List.mem_map.mp hc
  exact char_lt d
theorem reprChar_ok {q c : Nat} (hq : q < 0x110000) (hc : c < 0x110000) : ∀ d ∈ Builtin.Str.reprChar q c, d < 0x110000 := by
  have hx : ∀ (n : Nat), ∀ d ∈ List.replicate (n - ((Nat.toDigits 16 c).map Char.toNat).length) 48 ++ (Nat.toDigits 16 c).map Char.toNat, d < 0x110000 := fun n d hd => by
    rcases List.mem_append.mp hd with h | h
    · rw [(List.mem_replicate.mp h).2]; decide
    · obtain ⟨e, _, rfl⟩ := List.mem_map.mp h
      exact char_lt e
  intro d hd
  unfold Builtin.Str.reprChar at hd
  dsimp only at hd
  split at hd
  · simp at hd; omega
  · split at hd
    · simp at hd; omega
    · split at hd
      · simp at hd; omega
      · split at hd
        · simp at hd; omega
        · split at hd
          · simp at hd; omega
          · split at hd
            · rcases List.mem_append.mp hd with h | h
              · simp at h; omega
              · exact hx 2 d h
            · split at hd
              · rcases List.mem_append.mp hd with h | h
                · simp at h; omega
                · exact hx 4 d h
              · rcases List.mem_append.mp hd with h | h
                · simp at h; omega
                · exact hx 8 d h
theorem foldl_repr_ok {q : Nat} (hq : q < 0x110000) : ∀ (l : List Nat) (acc : Array Nat), (∀ c ∈ l, c < 0x110000) → (∀ c ∈ acc.toList, c < 0x110000) → ∀ c ∈ (l.foldl (fun out c => out ++ (Builtin.Str.reprChar q c).toArray) acc).toList, c < 0x110000
  | [], acc, _, h => by simpa using h
  | c :: r, acc, h, h2 => by
    simp only [List.foldl_cons]
    refine foldl_repr_ok hq r _ (fun d hd => h d (List.mem_cons_of_mem _ hd)) fun d hd => ?_
    rw [Array.toList_append] at hd
    rcases List.mem_append.mp hd with z | z
    · exact h2 d z
    · exact reprChar_ok hq (h c List.mem_cons_self) d (by simpa using z)
theorem reprText_ok {x : Str} (h : PyData.strOk x = true) : PyData.strOk (reprText x) = true := by
  rw [strOk_iff] at *
  have hq : reprQuote x < 0x110000 := by unfold reprQuote; split <;> decide
  have k := foldl_repr_ok hq x.cps.toList #[reprQuote x] h (by simpa using hq)
  intro c hc
  unfold reprText at hc
  rw [Array.toList_push, ← Array.foldl_toList] at hc
  rcases List.mem_append.mp hc with z | z
  · exact k c z
  · rw [List.mem_singleton.mp z]; exact hq
theorem join_ok : ∀ {ts : List Str}, (∀ t ∈ ts, PyData.strOk t = true) → PyData.strOk (Str.join ", " ts) = true
  | [], _ => by rw [strOk_iff]; intro c hc; cases hc
  | [x], h => h x List.mem_cons_self
  | x :: y :: r, h => by
    have e : Str.join ", " (x :: y :: r) = x ++ ", " ++ Str.join ", " (y :: r) := rfl
    rw [e]
    exact strOk_app (strOk_app (h x List.mem_cons_self) (strOk_lit _)) (join_ok fun t ht => h t (List.mem_cons_of_mem _ ht))
theorem tupleText_ok {ts : List Str} (h : ∀ t ∈ ts, PyData.strOk t = true) : PyData.strOk (tupleText ts) = true := by
  unfold tupleText
  exact strOk_app (strOk_app (strOk_lit _) (join_ok h)) (strOk_lit _)
theorem textFrom_ok : ∀ {ts : List Str} {k : Nat} {acc : Str}, PyData.strOk acc = true → (∀ t ∈ ts, PyData.strOk t = true) → PyData.strOk (textFrom k acc ts) = true
  | [], _, _, h, _ => h
  | t :: r, k, acc, h, h2 => textFrom_ok (ts := r) (strOk_app (strOk_app h (strOk_lit _)) (h2 t List.mem_cons_self)) fun u hu => h2 u (List.mem_cons_of_mem _ hu)
theorem listText_ok {ts : List Str} (h : ∀ t ∈ ts, PyData.strOk t = true) : PyData.strOk (listText ts) = true := strOk_app (textFrom_ok (strOk_lit _) h) (strOk_lit _)
mutual
theorem shown_ok : ∀ (n : Nat) (d : D), okD n d = true → PyData.strOk (toPy d).shown = true
  | n, .non, _ => strOk_lit _
  | n, .bl b, _ => by
    simp only [toPy, PyData.shown]
    cases b <;> exact strOk_lit _
  | n, .int i, _ => by
    simp only [toPy, PyData.shown]
    exact strOk_lit _
  | n, .str x, h => by
    simp only [toPy, PyData.shown]
    exact reprText_ok (by simpa [okD] using h)
  | 0, .tup xs, h => by simp [okD] at h
  | n + 1, .tup xs, h => by
    simp only [toPy, PyData.shown]
    exact tupleText_ok (shownAll_ok n xs (by simpa [okD] using h))
  | 0, .lst xs, h => by simp [okD] at h
  | n + 1, .lst xs, h => by
    simp only [toPy, PyData.shown]
    exact listText_ok (shownAll_ok n xs (by simpa [okD] using h))
  | 0, .scr xs, h => by simp [okD] at h
  | n + 1, .scr xs, h => by
    simp only [toPy, PyData.shown]
    exact listText_ok (shownAll_ok n xs (by simpa [okD] using h))
  | n, .ty x, h => by cases n <;> simp [okD] at h
  | n, .cls x, h => by cases n <;> simp [okD] at h
  | n, .obj x fs, h => by cases n <;> simp [okD] at h
  | n, .dk x, h => by cases n <;> simp [okD] at h
theorem shownAll_ok : ∀ (n : Nat) (l : List D), okDs n l = true → ∀ t ∈ PyData.shownAll (toPys l), PyData.strOk t = true
  | n, [], _ => by simp [toPys, PyData.shownAll]
  | n, x :: xs, h => by
    simp only [okDs, Bool.and_eq_true] at h
    simp only [toPys, PyData.shownAll]
    intro t ht
    rcases List.mem_cons.mp ht with rfl | q
    · exact shown_ok n x h.1
    · exact shownAll_ok n xs h.2 t q
end
theorem okSh_strOk {d : D} (h : okSh d = true) : PyData.strOk (shD d) = true := by
  unfold okSh at h
  rw [Bool.and_eq_true] at h
  exact shown_ok 60 d h.1
theorem opEq_strs {neg : Bool} {a b : Str} (h1 : PyData.strOk a = true) (h2 : PyData.strOk b = true) : opEq neg (.str a) (.str b) = some (xor neg (a == b)) := by
  simp [opEq, okD, h1, h2, dEq]
end Pm

set_option maxHeartbeats 2000000
/-! Q42: try with several clauses 'except x as n' -/
namespace Pm
open PySem PyProof.Rows L2 He
abbrev Hs := List (Value × Nat × (Addr → Value → Option Addr → TS))
/-- clauses in a row: the class, the name's slot, the suite -/
inductive Cls2 (X : Cx) : List ExceptHandler → Hs → Prop
  | nil : Cls2 X [] []
  | cons {x n : Str} {c : Value} {i : Nat} {t : Addr → Value → Option Addr → TS} {b : Stmt} {r : List Stmt} {p q : Pos} {hs : List ExceptHandler} {l : Hs} (nm : Names X x c) (ix : X.N[i]? = some n) (kn : X.env.kindOf n = some .local)
      (su : ∀ (a : Addr) (o : Obj) (cl : Value) (d : Option Addr) (pn : List (Addr × Obj)), Zc cl d o → (∃ vs, o.data = .fields vs) → PSs (X.suite a ((a, o) :: pn)) (b :: r) (t a cl d)) (rest : Cls2 X hs l) :
      Cls2 X (.ExceptHandler (some (.Name x p)) (some n) (b :: r) q :: hs) ((c, i, t) :: l)
def wN (K : PySem.W.Frag) (D : Ends) : Hs → WX → WX
  | [], W => W
  | (c, i, t) :: l, W => wAs K c i t (wN K D l W) D
section
variable {X : Cx} {body : List Stmt} {h₀ : ExceptHandler} {hds : List ExceptHandler} {l : Hs} {pos : Pos} {tb : WX → TS} {W : WX}
theorem ps_tryN (kN : X.N.Nodup) (kS : X.stack = X.env :: X.outer) (kF : X.env.frame = some X.env.locals) (tk : Takes X W)
    (hb : ∀ (V : WX) (pn : List (Addr × Obj)) (xe : Value → Shared → Prop), Takes (X.tr pn xe) V → PassesOwn (model X.prog X.w) X.A X.env xe → PSs (X.tr pn xe) body (tb V)) (cs : Cls2 X (h₀ :: hds) l) :
    PS X (.Try body (h₀ :: hds) [] [] pos) (fun D σ H => tb (wN X.K D l W) D σ H) := by
  refine ⟨fun pins s σ H D I hyp => ?_⟩
  have iok := I.ok
  have frames : X.A.frames = some (X.env :: X.outer) := by rw [iok.frames, kS]
  -- what stands behind a raise in the body
  let out : Value → Shared → Prop := fun e t1 => wpAny (model X.prog X.w) X.A (noteFrame e X.env) (fun _ t2 => wpAny (model X.prog X.w) X.A (setFlight e none) (fun _ t3 => wpAny (model X.prog X.w) X.A (handleBy e X.env (h₀ :: hds)) (SP X pins D) X.xe t3) X.xe t2) X.xe t1
  have takes : Takes (X.tr (X.pn ++ pins) out) (wN X.K D l W) := by
    intro u t ev
    obtain ⟨a, B, t0, pins0, τ, U, cl, d, rfl, J0, nb, up, sky, na, os, ag, w⟩ := ev
    have J1 : Inv X pins τ U t0 := J0.ofTry iok
    have sky1 : Sky B (X.env :: X.outer) a (Zc cl d) X.env.locals t.heap := by
      rw [← kS]
      exact sky
    show wpAny (model X.prog X.w) X.A (noteFrame (.ref a) X.env) _ _ _
    refine Sky.land Zc.steady frames kF sky1 fun g fl ug => ?_
    have J2 : Inv X pins τ U { t with heap := g } := J1.landed nb fl.1 (up.trans ug) os ag
    obtain ⟨o2, v2, at2, z2, dat2⟩ := fl.there
    have far : a ∉ frs (X.env :: X.outer) := fun hm => by
      obtain ⟨_, o', e', hnf⟩ := fl.2.2.1.mem hm
      rw [at2] at e'
      cases e'
      exact hnf _ dat2
    have n1 : a ≠ X.env.locals := fun z => far (List.mem_filterMap.mpr ⟨X.env, List.mem_cons_self, by rw [kF, z]⟩)
    have n2 : a ∉ X.fs := fun hm => by
      obtain ⟨e, he, q⟩ := List.mem_filterMap.mp hm
      exact far (List.mem_filterMap.mpr ⟨e, List.mem_cons_of_mem _ he, q⟩)
    have S2 := J2.suite at2 dat2 na n1 n2
    suffices go : ∀ {hs' : List ExceptHandler} {l' : Hs}, Cls2 X hs' l' → wN X.K D l' W cl d τ U → wpAny (model X.prog X.w) X.A (handleBy (.ref a) X.env hs') (SP X pins D) X.xe { t with heap := g } from go cs w
    intro hs' l' hk
    induction hk with
    | nil =>
      intro w
      refine wpAny_handleBy_nil ?_
      obtain ⟨y1, y2, y3, oe, vs, T, oT, ts', he, hz, hd, h1, hr⟩ := id fl
      unfold PySem.passOn
      refine wpAny_bind (wpAny_field he hd h1 ?_)
      rw [if_neg (by simp : ¬ ((Value.ref T == Value.none) = true))]
      have last : wpAny (model X.prog X.w) X.A (setFlight (.ref a) X.env.frame) (fun _ t5 => wpAny (model X.prog X.w) X.A (throw (.ref a) : Sem Flow) (SP X pins D) X.xe t5) X.xe { t with heap := g } := by
        rw [kF]
        refine HandSPX.setFlight_upZ fl fun g4 hh4 up4 => wpAny_throw (tk _ _ ?_)
        exact ⟨a, B, t0, pins, τ, U, cl, d, rfl, J1, nb, (up.trans ug).trans up4, .inr (.inr (by rw [kS]; exact hh4)), na, os, ag, w⟩
      first
        | exact wpAny_bind (wpAny_pure (wpAny_bind last))
        | exact wpAny_bind last
    | @cons x n c i ts b₁ suite p1 p2 hs2 l2 nm ix kn su rest ih =>
      intro w
      obtain ⟨b, eb, yes, no⟩ := w
      refine wpAny_handleBy_cons (codeAny_handlers_test ?_) (by intro q; cases q)
      have look : PySem.W.Looks (model X.prog X.w) g (typeOf (.ref a)) cl := fun A Q E s k q => wpAny_typeOf_ref (k _ _ at2) (by rw [z2.1]; exact q)
      have fits := PySem.W.exm_one (M := model X.prog X.w) J2.kIn look eb
      have ask : ∀ {Q E : Value → Shared → Prop}, Q c { t with heap := g } → wpAny (model X.prog X.w) (X.A.mark (some (.ref a))) (eval (.Name x p1) X.env) Q E { t with heap := g } := fun {Q E} q => by
        obtain ⟨m1, m2, m3 | ⟨m3, m4, m5⟩⟩ := nm
        · exact ld_glob (X := X.suite a ((a, o2) :: (X.pn ++ pins))) S2 m1 m3 q m2
        · exact ld_blt (X := X.suite a ((a, o2) :: (X.pn ++ pins))) S2 m1 m3 m4 q m5 m2
      refine ask (fits.here ?_)
      cases b with
      | false =>
        show wpAny _ X.A (handleBy (.ref a) X.env hs2) _ _ _
        exact ih (no rfl)
      | true =>
        refine codeAny_handlers_suite_as ?_
        refine HandSPX.lands_againZ fl fun g4 fl4 up4 => ?_
        have J4 : Inv X pins τ U { t with heap := g4 } := J1.landed nb fl4.1 ((up.trans ug).trans up4) os ag
        obtain ⟨o4, v4, at4, z4, dat4⟩ := fl4.there
        have S4 := J4.suite at4 dat4 na n1 n2
        refine store_ok (X := X.suite a ((a, o4) :: (X.pn ++ pins))) (v := .ref a) S4 kN ix (.inl kn) rfl (fun t5 S5 => ?_) (.inr kn)
        refine wpAny_mono ((su a o4 cl d (X.pn ++ pins) z4 ⟨_, dat4⟩).run [] t5 _ U _ S5 (yes rfl a na)) (fun f t6 sp => ?_) (fun _ _ z => z.elim)
        have gone : ∀ {τ6 : L2.St} {U6 : Hp} {Q : Shared → Prop}, Inv (X.suite a ((a, o4) :: (X.pn ++ pins))) [] τ6 U6 t6 → (∀ t7, Inv X pins (τ6.set i none) U6 t7 → Q t7) →
            wpAny (model X.prog X.w) X.A (do bindName X.env n .none; unbindBehindTheSuite X.env n p2) (fun _ t7 => Q t7) X.xe t6 := fun {τ6 U6 Q} S6 hq => gone_ok (S6.unsuite iok) kN ix kn hq
        cases f with
        | ret u =>
          obtain ⟨v6, τ6, U6, S6, r6, q6⟩ := sp
          exact gone S6 fun t7 J7 => ⟨_, _, _, J7, r6, q6⟩
        | next => obtain ⟨τ6, U6, S6, q6⟩ := sp; exact gone S6 fun t7 J7 => ⟨_, _, J7, q6⟩
        | brk => obtain ⟨τ6, U6, S6, q6⟩ := sp; exact gone S6 fun t7 J7 => ⟨_, _, J7, q6⟩
        | cont => obtain ⟨τ6, U6, S6, q6⟩ := sp; exact gone S6 fun t7 J7 => ⟨_, _, J7, q6⟩
  refine wpAny_Try_except (wpAny_mono ((hb (wN X.K D l W) (X.pn ++ pins) out takes PassesOwn.looking).run [] s σ H D (I.toTry _) hyp) (fun f t1 sp => ?_) fun e t1 he => he)
  cases f with
  | ret u => obtain ⟨v, τ, U, J, r, q⟩ := sp; exact ⟨v, τ, U, J.ofTry iok, r, q⟩
  | next => obtain ⟨τ, U, J, q⟩ := sp; exact wpAny_execs_nil ⟨τ, U, J.ofTry iok, q⟩
  | brk => obtain ⟨τ, U, J, q⟩ := sp; exact ⟨τ, U, J.ofTry iok, q⟩
  | cont => obtain ⟨τ, U, J, q⟩ := sp; exact ⟨τ, U, J.ofTry iok, q⟩
end
/-! ### in my terms -/
abbrev Hc := (Nat → Option Bool) × Nat × (Nat → Ev Fl)
def handN : List Hc → Exc → Ev Fl
  | [], x => fun st => some (.exc x, st)
  | (tab, i, fs) :: r, x => fun st => match tab x.c with
    | some true => if noEx st.sl && decide (i < st.sl.length) then behind i (fs x.c ⟨st.sl.set i (.ex x.c x.fs), st.M, st.b⟩) else none
    | some false => handN r x st
    | none => none
def fTryN (hs : List Hc) (fb : Ev Fl) : Ev Fl := fun st => match fb st with
  | some (.exc x, st1) => handN hs x st1
  | r => r
section
variable {X : Cx} {G : Cl} {Wx : WX} {pos : Pos}
inductive SCl (X : Cx) (G : Cl) : List ExceptHandler → List Hc → Prop
  | nil : SCl X G [] []
  | cons {x n : Str} {cv : Value} {i : Nat} {tab : Nat → Option Bool} {fs : Nat → Ev Fl} {b : Stmt} {r : List Stmt} {p q : Pos} {hs : List ExceptHandler} {l : List Hc} (nm : Names X x cv) (ht : ∀ c b, tab c = some b → PySem.W.exmOne X.K (.ref (G.at_ c)) cv = some b)
      (su : ∀ (c : Nat), tab c = some true → ∀ (a dd : Addr) (oe : Obj) (pn : List (Addr × Obj)), Zc (.ref (G.at_ c)) (some dd) oe → (∃ vs, oe.data = .fields vs) → SB (X.suite a ((a, oe) :: pn)) ⟨G.at_, a, dd⟩ (fun _ _ _ _ => False) (b :: r) (fs c))
      (rest : SCl X G hs l) (ix : X.N[i]? = some n := by rfl) (kn : X.env.kindOf n = some .local := by rfl) : SCl X G (.ExceptHandler (some (.Name x p)) (some n) (b :: r) q :: hs) ((tab, i, fs) :: l)
def hsOf (X : Cx) (G : Cl) (cv : Value) : Hc → Value × Nat × (Addr → Value → Option Addr → TS)
  | (tab, i, fs) => (cv, i, fun a cls d D σ H => ∃ c dd, tab c = some true ∧ cls = .ref (G.at_ c) ∧ d = some dd ∧ tS X.K ⟨G.at_, a, dd⟩ (fun _ _ _ _ => False) (fs c) D σ H)
theorem scl_hs : ∀ {hs : List ExceptHandler} {l : List Hc}, SCl X G hs l → ∃ l' : Hs, Cls2 X hs l' ∧ ∀ (D : Ends) (R F1 : Hp) (L1 : List Addr) (σ1 : L2.St) (H1 : Hp) (st1 : S) (y : Exc) (dd : Addr) (vs : List (Str × V)), Ok X.K G R F1 L1 st1 σ1 H1 → F1 dd = some (.xd vs) → RepF X.K G.at_ F1 y.fs vs →
    OutS X.K G Wx R F1 L1 D (handN l y st1) → wN X.K D l' Wx (.ref (G.at_ y.c)) (some dd) σ1 H1
  | _, _, .nil => ⟨[], .nil, fun D R F1 L1 σ1 H1 st1 y dd vs ok1 hd rf o => o σ1 F1 L1 H1 dd vs (.refl _ _) ok1 hd rf⟩
  | _, _, @SCl.cons _ _ x n cv i tab fs b r p q hs l nm ht su rest ix kn => by
    obtain ⟨l', h1, h2⟩ := scl_hs rest
    refine ⟨hsOf X G cv (tab, i, fs) :: l', .cons nm ix kn (fun a oe cls d pn hz hd => ⟨fun pins s σ H D I ⟨c, dd, hc, ec, ed, h⟩ => by
      subst ec ed
      exact (su c hc a dd oe pn hz hd).pss.run pins s σ H D I h⟩) h1, fun D R F1 L1 σ1 H1 st1 y dd vs ok1 hd rf o => ?_⟩
    unfold handN at o
    cases e2 : tab y.c with
    | none => rw [e2] at o; exact o.elim
    | some bb =>
      rw [e2] at o
      refine ⟨bb, ht _ _ e2, fun hb1 a ha => ?_, fun hb0 => ?_⟩
      · subst hb1
        dsimp only at o
        split at o
        · rename_i hh
          rw [Bool.and_eq_true] at hh
          refine ⟨y.c, dd, e2, rfl, rfl, R, F1, L1, ⟨st1.sl.set i (.ex y.c y.fs), st1.M, st1.b⟩, ⟨ok1.rel, by simp [ok1.len], fun j z ez => ?_⟩, ?_⟩
          · by_cases qq : j = i
            · subst qq
              have hj : j < st1.sl.length := of_decide_eq_true hh.2
              rw [List.getElem?_set_self hj] at ez
              cases ez
              exact ⟨by rw [List.getElem?_set_self (by rw [← ok1.len]; exact hj)], vs, hd, rf⟩
            · rw [List.getElem?_set_ne (Ne.symm qq)] at ez
              have rr := (ok1.sl j z ez).swap (G := G) (G' := ⟨G.at_, a, dd⟩) (noEx_get hh.1 ez) rfl
              cases z with
              | no => trivial
              | w w => obtain ⟨v, k1, k2⟩ := rr; exact ⟨v, by rw [List.getElem?_set_ne (Ne.symm qq)]; exact k1, k2⟩
              | ex c fs => have := noEx_get hh.1 ez; cases this
          · unfold behind at o
            cases e3 : fs y.c ⟨st1.sl.set i (.ex y.c y.fs), st1.M, st1.b⟩ with
            | none => rw [e3] at o; exact o.elim
            | some pp =>
              obtain ⟨out, st2⟩ := pp
              rw [e3] at o
              cases out with
              | exc z => exact o.elim
              | ok fl =>
                dsimp only at o
                split at o
                · rename_i g2
                  rw [Bool.and_eq_true] at g2
                  intro σ2 F2 L2 H2 x2 ok2
                  have ok3 : Ok X.K G R F2 L2 ⟨st2.sl.set i .no, st2.M, st2.b⟩ (σ2.set i none) H2 := ⟨ok2.rel, by simp [ok2.len], fun j z ez => by
                    by_cases qq : j = i
                    · subst qq
                      have hj : j < st2.sl.length := by
                        have := (List.getElem?_eq_some_iff.mp ez).1
                        simpa using this
                      rw [List.getElem?_set_self hj] at ez
                      cases ez
                      trivial
                    · have nz := noEx_get g2.2 ez
                      rw [List.getElem?_set_ne (Ne.symm qq)] at ez
                      have rr := (ok2.sl j z ez).swap (G := ⟨G.at_, a, dd⟩) (G' := G) nz rfl
                      cases z with
                      | no => trivial
                      | w w => obtain ⟨v, k1, k2⟩ := rr; exact ⟨v, by rw [List.getElem?_set_ne (Ne.symm qq)]; exact k1, k2⟩
                      | ex c fs => cases nz⟩
                  have o2 := o (σ2.set i none) F2 L2 H2 x2 ok3
                  cases fl with
                  | nx => exact o2
                  | brk => exact o2
                  | ct => exact o2
                  | ret r =>
                    intro v rv
                    refine o2 v ?_
                    cases r with
                    | d x => exact rv
                    | loc i => exact rv
                    | new c => exact rv
                    | ex c fs => cases g2.1
                · exact o.elim
        · exact o.elim
      · subst hb0
        exact h2 D R F1 L1 σ1 H1 st1 y dd vs ok1 hd rf o
theorem bel_handN : ∀ {hs : List ExceptHandler} {l : List Hc}, SCl X G hs l → ∀ (x : Exc), Bel (handN l x)
  | _, _, .nil, x => fun st o st' hl e => by cases e; exact .refl _
  | _, _, @SCl.cons _ _ _ n cv i tab fs b r p q hs l nm ht su rest ix kn, x => fun st o st' hl e => by
    unfold handN at e
    cases e2 : tab x.c with
    | none => rw [e2] at e; cases e
    | some bb =>
      rw [e2] at e
      cases bb with
      | false => exact bel_handN rest x st o st' hl e
      | true =>
        dsimp only at e
        split at e
        · unfold behind at e
          cases e3 : fs x.c ⟨st.sl.set i (.ex x.c x.fs), st.M, st.b⟩ with
          | none => rw [e3] at e; cases e
          | some pp =>
            obtain ⟨out, st2⟩ := pp
            rw [e3] at e
            have l2 := (su x.c e2 0 0 { cls := .ref (G.at_ x.c), dict := some 0, data := .fields #[] } [] ⟨rfl, rfl⟩ ⟨_, rfl⟩).bel ⟨st.sl.set i (.ex x.c x.fs), st.M, st.b⟩ _ _ hl e3
            cases out with
            | exc x => cases e
            | ok fl =>
              dsimp only at e
              split at e
              · cases e; exact l2
              · cases e
        · cases e
theorem ss_tryN {body : List Stmt} {h₀ : ExceptHandler} {hds : List ExceptHandler} {l : List Hc} {fb : Ev Fl} (hN : X.N.Nodup) (tk : Takes X Wx)
    (hb : ∀ (W : WX) (pn : List (Addr × Obj)) (xe : Value → Shared → Prop), Takes (X.tr pn xe) W → PassesOwn (model X.prog X.w) X.A X.env xe → SB (X.tr pn xe) G W body fb)
    (cl : SCl X G (h₀ :: hds) l) (hs : X.stack = X.env :: X.outer := by rfl) (hf : X.env.frame = some X.env.locals := by rfl) : SS X G Wx (.Try body (h₀ :: hds) [] [] pos) (fTryN l fb) := by
  obtain ⟨l', h1, h2⟩ := scl_hs (Wx := Wx) cl
  refine ⟨PS_imp (ps_tryN (tb := fun W => tS X.K G W fb) (W := Wx) (l := l') hN hs hf tk (fun W pn xe t p => (hb W pn xe t p).pss) h1) fun D σ H ⟨R, F, L, st, ok, o⟩ => ?_, fun st o st' hl e => ?_⟩
  · refine ⟨R, F, L, st, ok, ?_⟩
    unfold fTryN at o
    cases e1 : fb st with
    | none => rw [e1] at o; exact o.elim
    | some p =>
      obtain ⟨out, st1⟩ := p
      rw [e1] at o
      cases out with
      | ok fl => exact o
      | exc y =>
        dsimp only at o
        intro σ1 F1 L1 H1 dd vs x1 ok1 hd rf
        exact h2 D R F1 L1 σ1 H1 st1 y dd vs ok1 hd rf (OutS.ext x1 o)
  · unfold fTryN at e
    cases e1 : fb st with
    | none => rw [e1] at e; cases e
    | some p =>
      obtain ⟨out, st1⟩ := p
      have l1 := (hb _ [] (fun _ _ => False) takes0 PassesOwn.never).bel _ _ _ hl e1
      rw [e1] at e
      cases out with
      | ok fl => cases e; exact l1
      | exc y => exact l1.trans (bel_handN cl y st1 o st' (l1.ok hl) e)
end
/-! ### plain reasoning -/
section
variable {st : S} {fb : Ev Fl} {l : List Hc} {QF : Fl → S → Prop} {E : Exc → S → Prop}
theorem wp_tryN0 (h : Wp (fb st) QF) : Wp (fTryN l fb st) QF := by
  obtain ⟨fl, s, e, q⟩ := h.get
  unfold fTryN
  rw [e]
  exact q
theorem wp_tryN1 (h : Wxc (fb st) fun x s => Wp (handN l x s) QF) : Wp (fTryN l fb st) QF := by
  unfold Wxc at h
  split at h
  · rename_i x s e
    unfold fTryN
    rw [e]
    exact h
  · exact h.elim
theorem wp_hand_t {tab : Nat → Option Bool} {i : Nat} {fs : Nat → Ev Fl} {x : Exc} {s : S} (e : tab x.c = some true) (h2 : noEx s.sl = true) (h3 : i < s.sl.length)
    (h : Wp (fs x.c ⟨s.sl.set i (.ex x.c x.fs), s.M, s.b⟩) fun fl s2 => (flOk fl = true ∧ noEx (s2.sl.set i .no) = true) ∧ QF fl ⟨s2.sl.set i .no, s2.M, s2.b⟩) : Wp (handN ((tab, i, fs) :: l) x s) QF := by
  obtain ⟨fl, s2, e2, ⟨h4, h5⟩, q⟩ := h.get
  unfold handN
  rw [e]
  dsimp only
  rw [if_pos (by rw [h2]; simpa using h3)]
  unfold behind
  rw [e2]
  dsimp only
  rw [if_pos (by rw [h4, h5]; rfl)]
  exact q
theorem wp_hand_f {tab : Nat → Option Bool} {i : Nat} {fs : Nat → Ev Fl} {x : Exc} {s : S} (e : tab x.c = some false) (h : Wp (handN l x s) QF) : Wp (handN ((tab, i, fs) :: l) x s) QF := by
  unfold handN
  rw [e]
  exact h
end
end Pm

set_option maxHeartbeats 2000000
/-! Q43: x += e by an own __iadd__; list.insert; a text times an int; repr of all plain data; suites by class -/
namespace Pm
open PySem PyProof.Rows L2 He
/-! ### an own __iadd__ -/
section
open PySem.W
variable {prog : Program} {w : World} {A : Around} {E : Value → Shared → Prop} {s : Shared} {K : PySem.W.Frag} {x C f : Addr} {ox : Obj} {od : Option Obj}
theorem fillsI_K {M : Model} {h : Heap} {nm : String} {b : Bool} {cd : ClassData} {rest : List Value} (X : K.In h) (hc : clsIn K C = some cd) (hm : cd.mro = .ref C :: rest) (hs : findIn K (.ref C) (dunderI nm) = some (some (.ref f))) : Looks M h (fillsInplaceSlot (.ref C) nm b) true := by
  intro A Q E s k q
  unfold fillsInplaceSlot
  refine wpAny_bind ((looks_clsIn X hc).andThen (f := fun c => pure c.mro) .now A _ E s k ?_)
  rw [hm, List.anyM_cons]
  refine wpAny_bind (wpAny_bind (looks_findIn X hs A _ E s k ?_))
  dsimp only
  rw [if_pos (show (!ownNameWrapper (.ref f) (dunderI nm)) = true from rfl)]
  refine wpAny_pure ?_
  rw [if_pos rfl]
  exact wpAny_pure q
theorem iadd_K {b : Value} {Q : Value → Shared → Prop} (X : K.In s.heap) (I : InstAt s.heap x ox C od) (hc : selfFirst K C = true) (hs : findIn K (.ref C) "__iadd__" = some (some (.ref f))) (hf : isFn K (.ref f) = true)
    (h : wpAny (model prog w) A (call (.ref f) [.ref x, b]) (fun v t => v ≠ .notImplemented ∧ Q v t) E s) : wpAny (model prog w) A (inplaceOp .Add (.ref x) b) Q E s := by
  obtain ⟨cd, hcd, hm⟩ := any_some hc
  obtain ⟨rest, hm⟩ : ∃ rest, cd.mro = .ref C :: rest := by
    cases q : cd.mro with
    | nil => rw [q] at hm; cases hm
    | cons a r => rw [q] at hm; exact ⟨r, by rw [List.head?_cons] at hm; cases (beq_iff_eq.mp hm); rfl⟩
  have en : dunderI (Operator.info .Add).2 = ("__iadd__" : Str) := by decide +kernel
  unfold inplaceOp
  refine wpAny_holding (wpAny_bind (I.type.here (wpAny_bind ((fillsI_K (f := f) X hcd hm (by rw [en]; exact hs)).here ?_))))
  rw [if_pos rfl]
  refine wpAny_bind (m := tryMethod (.ref x) _ b) ?_
  unfold tryMethod
  refine wpAny_bind (special_fn X I (by rw [en]; exact hs) (beq_iff_eq.mp hf) (wpAny_mono h (fun v t hv => ?_) fun _ _ e => e))
  obtain ⟨h1, h2⟩ := hv
  cases v <;> first | exact absurd rfl h1 | exact wpAny_pure (wpAny_bind (wpAny_rule (wpAny_pure h2)))
end
section
variable {X : Cx} {G : Cl} {Wx : WX} {pos pos' : Pos} {e : Expr} {f : Ev Res} {hf : Ev W} {c i k : Nat} {fs : Fn} {z : Bool} {fa : Addr} {fd : FuncData} {ps : List Str} {x : Str}
def fIadd (i : Nat) (fs : Fn) (c : Nat) (hf : Ev W) : Ev Fl := fun st => match st.sl[i]? with
  | some (.w w) => (hf.bind fun u => fun st1 => if isCls st1.M c w then ((evW (eCallF fs [w, u])).bind fun w' => fun st2 => some (.ok .nx, ⟨st2.sl.set i (.w w'), st2.M, st2.b⟩)) st1 else none) st
  | _ => none
theorem bel_iadd (fb : FnB fs) (bf : Bel hf) : Bel (fIadd i fs c hf) := fun st o st' hb e => by
  unfold fIadd at e
  split at e
  · refine (bf.bind fun u => fun st1 o st' hb e => ?_) st o st' hb e
    split at e
    · exact ((bel_evW (bel_callF fb _)).bind fun w' => fun st o st' _ e => by cases e; exact .refl _) st1 o st' hb e
    · cases e
  · cases e
theorem ss_iadd (hN : X.N.Nodup) (q : OpOk X.K (G.at_ c) "__iadd__" fa) (F : FnZ z X.prog X.w X.K X.mg X.base (L2.CX X.prog X.w) k fa fd ps (spF X.K G.at_ ps.length fs)) (fb : FnB fs) (h2 : ps.length = 2) (hr : Room k X.A) (hz : z = true → X.A.guards = some []) (tk : Takes X Wx) (hb : Binds X.K fd ps [])
    (wf : AsW f hf) (he : SE X G Wx e f) (hi : X.N[i]? = some x := by rfl) (kn : X.env.kindOf x = some .local := by rfl) : SS X G Wx (.AugAssign (.Name x pos') .Add e pos) (fIadd i fs c hf) :=
  ⟨⟨fun pins s σ H D I ⟨R0, F0, L0, st, ok, o⟩ => by
    unfold fIadd at o
    split at o
    · rename_i w hw
      obtain ⟨vx, ex, rx⟩ := ok.sl i _ hw
      obtain ⟨m, hn, hl⟩ := I.loc
      obtain ⟨u, r, l⟩ := hl i x vx hi ex (.inl kn)
      rcases l with ⟨hk, hm⟩ | ⟨hk, _⟩
      · refine wpAny_AugAssign_Name (wpAny_loadName_local I.ok.kind hk hn hm ?_)
        refine thn (he.pe.run pins s σ H (fun y H1 => ∃ R F L M w2, Rel X.K G.at_ R F L M H1 ∧ RepW X.K G.at_ F L w vx ∧ RepW X.K G.at_ F L w2 y ∧ isCls M c w = true ∧ OutF X.K G.at_ R F L (fun v H' => D.nx (σ.set i (some v)) H') (WE Wx σ) (fs [w, w2] M)) I ?_) fun b s1 ⟨y, H1, I1, r1, R, F1, L, M, w2, rel, rw1, rw2, hc, o1⟩ => ?_
        · refine tE_of ok (wf.out (OutS.bind (f := hf) o fun w2 st1 F1 L1 H1 x1 ok1 o1 v rv => ?_))
          split at o1
          · rename_i hc
            refine ⟨R0, F1, L1, st1.M, w2, ok1.rel, rx.ext x1, rv, hc, ?_⟩
            have o2 : OutE X.K G Wx R0 F1 L1 σ (fun v H' => D.nx (σ.set i (some v)) H') (eCallF fs [w, w2] st1) := outW (OutS.bind (f := evW (eCallF fs [w, w2])) o1 fun w' st2 F2 L2 H2 x2 ok2 o2 v rv => o2 _ F2 L2 H2 (.refl _ _) (ok2.setSl i rv))
            exact call_out ok1 o2 fun r st3 F3 L3 H3 v x3 ok3 p rr => p v rr
          · exact o1.elim
        · obtain ⟨a', dx, fl, rfl, ha'⟩ := isCls_ok rel rw1 hc
          cases r
          obtain ⟨mA, J, _⟩ := ins_get I1.hok ha'
          obtain ⟨od, J, _⟩ := J.look
          refine iadd_K I1.kIn J q.first q.at_ q.fn (wpAny_mono (call_at (A := X.A) rfl F hr hz tk hb (vs := [.ref a', y]) I1 (.cons rfl (.cons r1 .nil)) (by simp [h2]) rel (.cons rw1 (.cons rw2 .nil)) o1) (fun v' s' hq => ?_) fun _ _ y => y)
          obtain ⟨z', H', I', rz, qz⟩ := hq
          refine ⟨fun e => relV_ni (e ▸ rz), ?_⟩
          exact store_ok I' hN hi (.inl kn) rz (fun s3 I3 => ⟨_, H', I3, qz⟩) (.inr kn)
      · rw [kn] at hk
        rcases hk with hk | hk <;> cases hk
    · exact o.elim⟩, bel_iadd fb (wf.bel he.bel)⟩
end
/-! ### xs.insert(i, e) -/
theorem RepWs.take {K : PySem.W.Frag} {g : Nat → Addr} {F : Hp} {L : List Addr} : ∀ {ws : List W} {vs : List V}, RepWs K g F L ws vs → ∀ n, RepWs K g F L (ws.take n) (vs.take n)
  | _, _, .nil, n => by simpa using RepWs.nil
  | _, _, .cons r rs, 0 => .nil
  | _, _, .cons r rs, n + 1 => .cons r (RepWs.take rs n)
theorem RepWs.drop {K : PySem.W.Frag} {g : Nat → Addr} {F : Hp} {L : List Addr} : ∀ {ws : List W} {vs : List V}, RepWs K g F L ws vs → ∀ n, RepWs K g F L (ws.drop n) (vs.drop n)
  | _, _, .nil, n => by simpa using RepWs.nil
  | _, _, .cons r rs, 0 => .cons r rs
  | _, _, .cons r rs, n + 1 => RepWs.drop rs n
def stInsert : S → Nat → List W → List W → Option (Res × List W) := fun st j ws as => match as with
  | [.d (.int i), w] => if mayPut st j w && (decide (ws.length < sizeLine) && (decide (0 ≤ i) && decide (i < 2 ^ 63))) then some (.d .non, ws.take i.toNat ++ [w] ++ ws.drop i.toNat) else none
  | _ => none
def rInsert : V → List V → Hp → VK → Prop := fun x vs H Q => ∃ (l : Addr) (xs : List V) (i : Int) (y : V), x = .ref l ∧ vs = [.int i, y] ∧ H l = some (.lst xs) ∧ xs.length < sizeLine ∧ 0 ≤ i ∧ i < 2 ^ 63 ∧ Q .non (upd H l (.lst (xs.take i.toNat ++ [y] ++ xs.drop i.toNat)))
section
variable {X : Cx} {G : Cl} {Wx : WX} {apos cpos : Pos} {e o : Expr} {es : List Expr} {fo : Ev Res} {ho : Ev W} {fa : Ev (List W)}
theorem lm_insert : LmOk X G rInsert stInsert where
  run := fun R F L st σ H j ws as ws' res a vs zs Q ok hc ha f0 r0 hv rs rz e q => by
    unfold stInsert at e
    split at e
    · rename_i i w
      split at e
      · rename_i hh
        cases e
        simp only [Bool.and_eq_true, decide_eq_true_eq] at hh
        obtain ⟨h1, h2, h3, h4⟩ := hh
        cases rz with
        | cons r1 rn =>
          cases rn with
          | cons r2 rn =>
            cases rn
            cases r1
            exact ⟨a, vs, i, _, rfl, rfl, hv, by rw [← rs.length]; exact h2, h3, h4, q .non _ (((rs.take _).append (.cons r2 .nil)).append (rs.drop _)) fun _ _ => .non⟩
      · cases e
    · cases e
  bel := fun st j ws as ws' res e hi n hn w hw => by
    unfold stInsert at e
    split at e
    · split at e
      · rename_i hh
        cases e
        simp only [Bool.and_eq_true] at hh
        rcases List.mem_append.mp hw with h | h
        · rcases List.mem_append.mp h with h | h
          · exact hn w (List.mem_of_mem_take h)
          · obtain rfl := List.mem_singleton.mp h
            exact mayPut_below hh.1 hi
        · exact hn w (List.mem_of_mem_drop h)
      · cases e
    · cases e
theorem se_insert (hw : AsW fo ho) (hso : SE X G Wx o fo) (ha : SA X G Wx (e :: es) fa)
    (hbase : attributeBase o "insert" X.env (eval o X.env) = eval o X.env := by rfl)
    (hfew : ((backTo cpos (starEach (e :: es) X.env)).all (fun x => !x.1) && (backToKw cpos (keywordEach [] X.env)).all (fun x => x.1.isSome)
      && decide ((e :: es).length + ([] : List Keyword).length + (if ([] : List Keyword).isEmpty then 0 else 1) < 30)) = true := by rfl)
    (hline : (apos.endLine == cpos.line) = true := by rfl) (hs : starEach (e :: es) X.env = (false, eval e X.env) :: starEach es X.env := by rfl) (hplain : (backTo cpos (starEach es X.env)).any (·.1) = false := by rfl) :
    SE X G Wx (.Call (.Attribute o "insert" apos) (e :: es) [] cpos) (eLm stInsert ho fa) :=
  se_lm lm_insert PySem.F.slot_list_insert PySem.F.type_list_insert mt_insert hw hso ha hbase hfew hline hs hplain
/-! ### a text times an int -/
def repS (x : Str) (n : Nat) : Str := ⟨(List.replicate n x.cps).foldl (· ++ ·) #[]⟩
theorem fold_rep (c : Array Nat) : ∀ (n : Nat) (acc : Array Nat), ((List.replicate n c).foldl (· ++ ·) acc).toList = acc.toList ++ (List.replicate n c.toList).flatten
  | 0, acc => by simp
  | n + 1, acc => by
    rw [List.replicate_succ, List.foldl_cons, fold_rep c n, List.replicate_succ, List.flatten_cons, Array.toList_append, List.append_assoc]
theorem repS_cps (x : Str) (n : Nat) : (repS x n).cps.toList = (List.replicate n x.cps.toList).flatten := by
  unfold repS
  rw [fold_rep]
  rfl
theorem repS_len (x : Str) (n : Nat) : (repS x n).length = n * x.length := by
  have e : (repS x n).length = (repS x n).cps.toList.length := by simp [Str.length]
  rw [e, repS_cps]
  simp [Str.length]
def opMulS (a b : D) : Option Res := match a, b with
  | .str x, .int n => if decide (-(2 ^ 63 : Int) ≤ n) && (decide (n < 2 ^ 40) && decide (x.length * n.toNat ≤ sizeLine)) then some (.d (.str (if n < 1 then Str.empty else if (n == 1 || x.length == 0) = true then x else repS x n.toNat))) else none
  | _, _ => none
theorem or_mulS : OpR X (binaryOp .Mult) (rD X.K G opMulS) := by
  intro pins s σ H x y v u Q I rx ry ⟨R, F, L, M, a, b, r, rel, ra, rb, e, q⟩
  unfold opMulS at e
  split at e
  · rename_i x n
    split at e
    · rename_i hh
      cases e
      simp only [Bool.and_eq_true, decide_eq_true_eq] at hh
      obtain ⟨h1, h2, h3⟩ := hh
      obtain rfl := ra.str_inv
      obtain rfl := rb.int_inv
      obtain ⟨t1, rfl⟩ := rx
      obtain ⟨t2, rfl⟩ := ry
      have fin := q _ F H (.refl _) rel (.str _)
      have big : sizeLine = 2 ^ 24 := rfl
      refine PySem.P.mul_str (by simp; omega) (fun g1 g2 => ?_) (fun g1 g2 => by unfold Builtin.Str.tooLong; simp; omega) ?_
      · have p1 : 0 < n := by omega
        have hx : 0 < x.length := by
          rcases Nat.eq_zero_or_pos x.length with z | z
          · rw [z] at g2; simp at g2
          · exact z
        have : (x.length : Int) * n ≤ 2 ^ 24 := by
          have e3 : ((x.length * n.toNat : Nat) : Int) ≤ (2 ^ 24 : Nat) := Int.ofNat_le.mpr (by rw [← big]; exact h3)
          rw [Int.natCast_mul, Int.toNat_of_nonneg (by omega)] at e3
          simpa using e3
        have : (x.length : Int) ≤ (2 ^ 63 - 1) / n := by
          rw [Int.le_ediv_iff_mul_le p1]
          omega
        omega
      · split
        · rename_i g
          rw [if_pos g] at fin
          exact ⟨by decide, .str _, H, I.tok _, ⟨_, rfl⟩, fin⟩
        · rename_i g
          rw [if_neg g] at fin
          split
          · rename_i g2
            rw [if_pos g2] at fin
            exact ⟨.str _, H, I, ⟨_, rfl⟩, fin⟩
          · rename_i g2
            rw [if_neg g2] at fin
            exact ⟨by show (repS x n.toNat).length ≤ sizeLine; rw [repS_len, Nat.mul_comm]; exact h3, .str _, H, I.tok _, ⟨_, rfl⟩, fin⟩
    · cases e
  · cases e
end
end Pm

set_option maxHeartbeats 2000000
/-! Q44: repr of all plain data; suites by class -/
namespace Pm
open PySem PyProof.Rows L2 He
section
variable {X : Cx} {G : Cl} {Wx : WX} {pos p : Pos}
def plainD : D → Bool
  | .non => true
  | .bl _ => true
  | .int _ => true
  | .str _ => true
  | .tup _ => true
  | .lst _ => true
  | _ => false
def dReprA (d : D) : Option Res := if plainD d && okSh d then some (.d (.str (shD d))) else none
theorem call_reprS : CallR X (.builtin "repr") fun xs H Q => ∃ d : D, okSh d = true ∧ ((d = .non ∧ xs = [.non]) ∨ (∃ b, d = .bl b ∧ xs = [.bl b]) ∨ (∃ i, d = .int i ∧ xs = [.int i]) ∨ ∃ y, d = .str y ∧ xs = [.str y]) ∧ Q (.str (shD d)) H := by
  intro pins s σ H xs us Q I r ⟨d, ok, hd, q⟩
  unfold okSh at ok
  simp only [Bool.and_eq_true, decide_eq_true_eq] at ok
  unfold shD at q
  rcases hd with ⟨rfl, rfl⟩ | ⟨b, rfl, rfl⟩ | ⟨i, rfl, rfl⟩ | ⟨y, rfl, rfl⟩
  · cases r with
    | cons r1 rn =>
      cases rn
      cases r1
      simp only [toPy, PyData.shown] at q
      exact PySem.P.repr_of_none ⟨.str _, H, I.tok _, ⟨_, rfl⟩, q⟩
  · cases r with
    | cons r1 rn =>
      cases rn
      cases r1
      simp only [toPy, PyData.shown] at q
      cases b
      · exact PySem.P.repr_of_bool ⟨.str "False", H, I.tok _, ⟨_, rfl⟩, q⟩
      · exact PySem.P.repr_of_bool ⟨.str "True", H, I.tok _, ⟨_, rfl⟩, q⟩
  · cases r with
    | cons r1 rn =>
      cases rn
      obtain ⟨t, rfl⟩ := r1
      simp only [toPy, PyData.shown] at q
      have hz : i.natAbs.log2 < 1920 := by
        have := ok.2.1
        simpa [toPy, PyData.showable] using this
      exact PySem.P.repr_of_int hz ⟨.str _, H, I.tok _, ⟨_, rfl⟩, q⟩
  · cases r with
    | cons r1 rn =>
      cases rn
      obtain ⟨t, rfl⟩ := r1
      have hz := ok.2.2
      simp only [toPy, PyData.shown] at q hz
      exact PySem.P.repr_of_str ⟨.str _, H, I.tok _, ⟨_, rfl⟩, q⟩ hz
theorem CallR.or {fv : Value} {r1 r2 : List V → Hp → VK → Prop} (h1 : CallR X fv r1) (h2 : CallR X fv r2) : CallR X fv fun xs H Q => r1 xs H Q ∨ r2 xs H Q := by
  intro pins s σ H xs us Q I r h
  rcases h with h | h
  · exact h1 pins s σ H xs us Q I r h
  · exact h2 pins s σ H xs us Q I r h
theorem cr_reprA (hg : X.A.guards = some []) (hu : X.A.units + 64 < cLine) : CallR X (.builtin "repr") (rBf X.K G (b1 dReprA)) := cr_b1 (call_reprS.or (call_repr hg hu)) fun R F L M H d v res Q rel r e q => by
  unfold dReprA at e
  split at e
  · rename_i hh
    cases e
    rw [Bool.and_eq_true] at hh
    obtain ⟨h0, h1⟩ := hh
    have fin := q _ F H (.refl _) rel (.str _)
    have two : ((∃ xs, d = .tup xs) ∨ ∃ xs, d = .lst xs) → rRepr X.K [v] H Q := fun h3 => by
      obtain ⟨a, rfl⟩ := rep_ref r h3
      have h2 := h1
      unfold okSh at h2
      exact ⟨d, a, rfl, h1, r.dp2 rel.fh (Bool.and_eq_true_iff.mp h2).1, fin⟩
    cases d <;> simp [plainD] at h0
    · obtain rfl : v = .non := by cases r with | rep r => cases r; rfl
      exact .inl ⟨_, h1, .inl ⟨rfl, rfl⟩, fin⟩
    · obtain rfl := r.bl_inv
      exact .inl ⟨_, h1, .inr (.inl ⟨_, rfl, rfl⟩), fin⟩
    · obtain rfl := r.int_inv
      exact .inl ⟨_, h1, .inr (.inr (.inl ⟨_, rfl, rfl⟩)), fin⟩
    · obtain rfl := r.str_inv
      exact .inl ⟨_, h1, .inr (.inr (.inr ⟨_, rfl, rfl⟩)), fin⟩
    · exact .inr (two (.inl ⟨_, rfl⟩))
    · exact .inr (two (.inr ⟨_, rfl⟩))
  · cases e
/-! ### clauses by class -/
def selF : List (Nat × Ev Fl) → Nat → Ev Fl
  | [], _ => Ev.fail
  | (c, f) :: r, x => if x = c then f else selF r x
def tabS (yes no : List Nat) : Nat → Option Bool := fun c => if c ∈ yes then some true else if c ∈ no then some false else none
theorem tabS_ok {K : PySem.W.Frag} {g : Nat → Addr} {cv : Value} {yes no : List Nat} (h1 : ∀ c ∈ yes, PySem.W.exmOne K (.ref (g c)) cv = some true) (h2 : ∀ c ∈ no, PySem.W.exmOne K (.ref (g c)) cv = some false) :
    ∀ c b, tabS yes no c = some b → PySem.W.exmOne K (.ref (g c)) cv = some b := by
  intro c b e
  unfold tabS at e
  split at e
  · cases e; exact h1 c (by assumption)
  · split at e
    · cases e; exact h2 c (by assumption)
    · cases e
/-- a suite for each class -/
inductive AllSu (X : Cx) (G : Cl) (suite : List Stmt) : List (Nat × Ev Fl) → Prop
  | nil : AllSu X G suite []
  | cons {c : Nat} {f : Ev Fl} {l : List (Nat × Ev Fl)} (h : ∀ (a dd : Addr) (oe : Obj) (pn : List (Addr × Obj)), Zc (.ref (G.at_ c)) (some dd) oe → (∃ vs, oe.data = .fields vs) → SB (X.suite a ((a, oe) :: pn)) ⟨G.at_, a, dd⟩ (fun _ _ _ _ => False) suite f)
      (r : AllSu X G suite l) : AllSu X G suite ((c, f) :: l)
theorem su_of {suite : List Stmt} {no : List Nat} : ∀ {l : List (Nat × Ev Fl)}, AllSu X G suite l → ∀ c, c ∈ l.map (·.1) → ∀ (a dd : Addr) (oe : Obj) (pn : List (Addr × Obj)), Zc (.ref (G.at_ c)) (some dd) oe → (∃ vs, oe.data = .fields vs) →
    SB (X.suite a ((a, oe) :: pn)) ⟨G.at_, a, dd⟩ (fun _ _ _ _ => False) suite (selF l c)
  | _, .nil, c, h => by cases h
  | _, @AllSu.cons _ _ _ c0 f l h r, c, hc => by
    unfold selF
    split
    · rename_i e
      subst e
      exact h
    · rename_i e
      exact su_of (no := no) r c (by
        rcases List.mem_cons.mp hc with q | q
        · exact absurd q e
        · exact q)
/-- a clause, by lists of classes -/
theorem scl_cons {x n : Str} {cv : Value} {i : Nat} {yes no : List Nat} {l : List (Nat × Ev Fl)} {b : Stmt} {r : List Stmt} {p q : Pos} {hs : List ExceptHandler} {lr : List Hc} (nm : Names X x cv) (ht1 : ∀ c ∈ yes, PySem.W.exmOne X.K (.ref (G.at_ c)) cv = some true)
    (ht2 : ∀ c ∈ no, PySem.W.exmOne X.K (.ref (G.at_ c)) cv = some false) (he : l.map (·.1) = yes) (su : AllSu X G (b :: r) l) (rest : SCl X G hs lr) (ix : X.N[i]? = some n := by rfl) (kn : X.env.kindOf n = some .local := by rfl) :
    SCl X G (.ExceptHandler (some (.Name x p)) (some n) (b :: r) q :: hs) ((tabS yes no, i, selF l) :: lr) :=
  .cons nm (tabS_ok ht1 ht2) (fun c hc => su_of (no := no) su c (by
    unfold tabS at hc
    split at hc
    · rw [he]; assumption
    · split at hc <;> cases hc)) rest ix kn
end
end Pm

set_option maxHeartbeats 2000000
/-! Q45: plain reasoning: own __iadd__, errors within arguments -/
namespace Pm
open PySem
section
variable {α : Type} {E : Exc → S → Prop} {st : S} {fs : Fn} {c i : Nat} {hf : Ev W} {w : W} {QF : Fl → S → Prop}
theorem wp_iadd (hw : st.sl[i]? = some (.w w)) (h : Wp (hf st) fun u s => isCls s.M c w = true ∧ Fw (fs [w, u] s.M) fun r M' => Wp (toW r ⟨s.sl, M', s.b⟩) fun w' s2 => QF .nx ⟨s2.sl.set i (.w w'), s2.M, s2.b⟩) : Wp (fIadd i fs c hf st) QF := by
  unfold fIadd
  rw [hw]
  dsimp only
  rw [wp_bind]
  refine h.mono fun u s z => ?_
  rw [if_pos z.1, wp_bind, wp_evW, wp_callF]
  exact z.2
theorem wxc_iadd (hw : st.sl[i]? = some (.w w)) (h : Wp (hf st) fun u s => isCls s.M c w = true ∧ Fxc (fs [w, u] s.M) fun x M' => E x ⟨s.sl, M', s.b⟩) : Wxc (fIadd i fs c hf st) E := by
  unfold fIadd
  rw [hw]
  dsimp only
  refine wxc_r (h.mono fun u s z => ?_)
  rw [if_pos z.1]
  exact wxc_l (wxc_evW (wxc_callF.mpr z.2))
theorem wxc_tup {fa : Ev (List W)} (h : Wxc (fa st) E) : Wxc (eTup fa st) E := wxc_l h
theorem wxc_lst {fa : Ev (List W)} (h : Wxc (fa st) E) : Wxc (eLst fa st) E := wxc_l h
theorem wxc_ea1 {g : Ev W} {r : Ev (List W)} (h : Wxc (g st) E) : Wxc (eaCons g r st) E := wxc_l h
theorem wxc_ea2 {g : Ev W} {r : Ev (List W)} (h : Wp (g st) fun _ s => Wxc (r s) E) : Wxc (eaCons g r st) E := wxc_r (h.mono fun _ _ z => wxc_l z)
theorem wxc_evD {f : Ev Res} (h : Wxc (f st) E) : Wxc (evD f st) E := wxc_l h
theorem wxc_evC {f : Ev Res} (h : Wxc (f st) E) : Wxc (evC f st) E := wxc_l (wxc_l h)
end
@[simp] theorem enumD_len (ds : List D) : (enumD ds).length = ds.length := by simp [enumD]
end Pm

set_option maxHeartbeats 2000000
/-! Q46: plain reasoning: expressions that give data and change nothing -/
namespace Pm
open PySem
section
variable {st : S} {f h k : Ev Res} {x y : D} {fa : Ev (List W)} {xs : List D} {i : Nat} {r : Res}
def resD : Res → Option D
  | .d x => some x
  | .new c => c.frz
  | _ => none
/-- it gives this data -/
def Gv (f : Ev Res) (x : D) (st : S) : Prop := ∃ r, f st = some (.ok r, st) ∧ resD r = some x
theorem gv_D (h : Gv f x st) : evD f st = some (.ok x, st) := by
  obtain ⟨r, e1, e2⟩ := h
  unfold evD Ev.bind
  rw [e1]
  cases r with
  | d y => cases e2; rfl
  | new c =>
    simp only [resD] at e2
    simp only [toD, e2]
  | _ => cases e2
theorem gv_W (h : Gv f x st) : evW f st = some (.ok (.d x), st) := by
  obtain ⟨r, e1, e2⟩ := h
  unfold evW Ev.bind
  rw [e1]
  cases r with
  | d y => cases e2; rfl
  | new c =>
    simp only [resD] at e2
    simp only [toW, e2]
  | _ => cases e2
theorem gv_C (h : Gv f x st) : evC f st = some (.ok (.d x), st) := by
  unfold evC Ev.bind
  rw [gv_D h]
theorem gv_c : Gv (eC x) x st := ⟨.d x, rfl, rfl⟩
theorem gv_var (e : st.sl[i]? = some (.w (.d x))) : Gv (eVar i) x st := ⟨.d x, by unfold eVar; rw [e], rfl⟩
/-- all of them -/
def Gvs (fa : Ev (List W)) (xs : List D) (st : S) : Prop := fa st = some (.ok (xs.map .d), st)
theorem gvs_nil : Gvs eaNil [] st := rfl
theorem gvs_W {r : Ev (List W)} (h : Gv f x st) (hr : Gvs r xs st) : Gvs (eaCons (evW f) r) (x :: xs) st := by
  have e : r st = some (.ok (xs.map .d), st) := hr
  unfold Gvs eaCons Ev.bind
  rw [gv_W h]
  dsimp only
  rw [e]
  rfl
theorem gvs_C {r : Ev (List W)} (h : Gv f x st) (hr : Gvs r xs st) : Gvs (eaCons (evC f) r) (x :: xs) st := by
  have e : r st = some (.ok (xs.map .d), st) := hr
  unfold Gvs eaCons Ev.bind
  rw [gv_C h]
  dsimp only
  rw [e]
  rfl
theorem dats_all : ∀ xs : List D, dats (xs.map .d) = some xs
  | [] => rfl
  | x :: xs => by
    have := dats_all xs
    simp only [List.map_cons, dats, this, Option.map_some]
theorem gv_tup (h : Gvs fa xs st) (hl : xs.length ≤ sizeLine) : Gv (eTup fa) (.tup xs) st := by
  have e : fa st = some (.ok (xs.map .d), st) := h
  refine ⟨.d (.tup xs), ?_, rfl⟩
  unfold eTup Ev.bind
  rw [e]
  dsimp only
  rw [dats_all]
  dsimp only
  rw [if_pos hl]
theorem gv_lst (h : Gvs fa xs st) (hl : xs.length ≤ sizeLine) : Gv (eLst fa) (.lst xs) st := by
  have e : fa st = some (.ok (xs.map .d), st) := h
  refine ⟨.new (.lst (xs.map .d)), ?_, ?_⟩
  · unfold eLst Ev.bind
    rw [e]
    dsimp only
    rw [if_pos (by simpa using hl)]
  · simp only [resD, Cell.frz, dats_all, Option.map_some]
theorem gv_op {o : D → D → Option Res} {z : D} (h1 : Gv f x st) (h2 : Gv h y st) (e : o x y = some r) (e2 : resD r = some z) : Gv (eOp o f h) z st := by
  refine ⟨r, ?_, e2⟩
  unfold eOp Ev.bind
  rw [gv_W h1]
  dsimp only
  rw [gv_W h2]
  show Ev.lift (o x y) st = _
  rw [e]
  rfl
theorem gv_sl {lo hi : Ev (Option Int)} {l u : Option Int} {z : D} (h1 : Gv f x st) (h2 : lo st = some (.ok l, st)) (h3 : hi st = some (.ok u, st)) (e : slD x l u = some r) (e2 : resD r = some z) : Gv (eSl f lo hi) z st := by
  refine ⟨r, ?_, e2⟩
  unfold eSl Ev.bind
  rw [gv_W h1]
  dsimp only
  rw [h2]
  dsimp only
  rw [h3]
  show Ev.lift (slD x l u) st = _
  rw [e]
  rfl
theorem gv_if {t : Ev Bool} {b : Bool} (ht : t st = some (.ok b, st)) (h1 : b = true → Gv f x st) (h2 : b = false → Gv h x st) : Gv (eIf t f h) x st := by
  cases b with
  | true =>
    obtain ⟨r, e1, e2⟩ := h1 rfl
    refine ⟨r, ?_, e2⟩
    unfold eIf Ev.bind
    rw [ht]
    exact e1
  | false =>
    obtain ⟨r, e1, e2⟩ := h2 rfl
    refine ⟨r, ?_, e2⟩
    unfold eIf Ev.bind
    rw [ht]
    exact e1
theorem gv_wpW {Q : W → S → Prop} (h : Gv f x st) (q : Q (.d x) st) : Wp (evW f st) Q := by rw [gv_W h]; exact q
theorem gv_wpD {Q : D → S → Prop} (h : Gv f x st) (q : Q x st) : Wp (evD f st) Q := by rw [gv_D h]; exact q
end
end Pm

set_option maxHeartbeats 2000000
/-! Q47: x in o by an own __contains__ -/
namespace Pm
open PySem PyProof.Rows L2 He
section
variable {X : Cx} {G : Cl} {Wx : WX} {pos : Pos} {a b : Expr} {f h : Ev Res} {c : Nat} {fs : Fn} {z : Bool} {k : Nat} {fa : Addr} {fd : FuncData} {ps : List Str} {neg : Bool} {op : CmpOp}
def eOwnIn (fs : Fn) (c : Nat) (neg : Bool) (f h : Ev Res) : Ev Res := (evW f).bind fun u => (evW h).bind fun w => fun st => if isCls st.M c w then (eCallF fs [w, u] |>.bind fun r => Ev.lift (ownOut neg r)) st else none
def rOwnIn (K : PySem.W.Frag) (G : Cl) (Wx : WX) (fs : Fn) (c : Nat) (neg : Bool) : L2.St → R2 := fun σ y x H Q => ∃ R F L M w u, Rel K G.at_ R F L M H ∧ RepW K G.at_ F L w x ∧ RepW K G.at_ F L u y ∧ isCls M c w = true ∧
  OutF K G.at_ R F L (fun v H' => ∃ b, v = .bl b ∧ Q (.bl (xor neg b)) H') (WE Wx σ) (fs [w, u] M)
theorem bel_ownIn (fb : FnB fs) (bf : Bel f) (bh : Bel h) : Bel (eOwnIn fs c neg f h) := (bel_evW bf).bind fun u => (bel_evW bh).bind fun w => fun st o st' hb e => by
  split at e
  · exact ((bel_callF fb [w, u]).bind fun r => .same fun st o st' e => by
      unfold Ev.lift at e; split at e <;> cases e; rfl) st o st' hb e
  · cases e
theorem tOwnIn_of {K : PySem.W.Frag} {σ : L2.St} {H : Hp} {Q : VK} (t : tE K G Wx (eOwnIn fs c neg f h) σ H Q) : tOpS (rOwnIn K G Wx fs c neg) (tE K G Wx f) (tE K G Wx h) σ H Q := by
  obtain ⟨R, F, L, st, ok, o⟩ := t
  refine tE_W ok (OutP.bind (f := evW f) o fun u st1 F1 L1 H1 x1 ok1 o1 v rv => ?_)
  refine tE_W ok1 (OutP.bind (f := evW h) o1 fun w st2 F2 L2 H2 x2 ok2 o2 v2 ru => ?_)
  split at o2
  · rename_i hc
    refine ⟨R, F2, L2, st2.M, w, u, ok2.rel, ru, rv.ext x2, hc, ?_⟩
    have o3 : OutP K G Wx R F2 L2 σ (fun r _ _ _ H3 => ∃ b, r = .d (.bl b) ∧ Q (.bl (xor neg b)) H3) (eCallF fs [w, u] st2) := OutP.bind (f := eCallF fs [w, u]) o2 fun r st3 F3 L3 H3 x3 ok3 o3 => by
      obtain ⟨r', er, o4⟩ := OutP.lift o3
      unfold ownOut at er
      split at er
      · cases er; exact ⟨_, rfl, o4 F3 L3 H3 (.refl _ _) ok3 _ (.bl _)⟩
      · cases er
    exact call_out (Q := fun v H' => ∃ b, v = .bl b ∧ Q (.bl (xor neg b)) H') ok2 o3 fun r st3 F3 L3 H3 v x3 ok3 ⟨b, eb, p⟩ rr => by
      subst eb; cases rr; exact ⟨b, rfl, p⟩
  · exact o2.elim
theorem or_ownIn (q : OwnM X.K (G.at_ c) "__contains__" fa) (F : FnZ z X.prog X.w X.K X.mg X.base (L2.CX X.prog X.w) k fa fd ps (spF X.K G.at_ ps.length fs)) (h2 : ps.length = 2) (hr : Room k X.A) (hz : z = true → X.A.guards = some []) (tk : Takes X Wx) (hb : Binds X.K fd ps []) :
    OpS X (compareOp .In) (rOwnIn X.K G Wx fs c false) := by
  intro pins s σ H x y v u Q I rx ry ⟨R, F0, L, M, w, uw, rel, r1, r2, hc, o⟩
  obtain ⟨a, dx, fl, rfl, ha⟩ := isCls_ok rel r1 hc
  obtain rfl : u = Value.ref a := ry
  obtain ⟨mA, J, _⟩ := ins_get I.hok ha
  obtain ⟨od, J, _⟩ := J.look
  obtain ⟨m, hF⟩ := I.fr
  refine PySem.W.in_K hF I.ok.mod.kin J q.at_ q.fn (wpAny_mono (call_at rfl F hr hz tk hb (vs := [.ref a, x]) I (.cons rfl (.cons rx .nil)) (by simp [h2]) rel (.cons r1 (.cons r2 .nil)) o) (fun v' s' ⟨z', H', I', rz, b, ez, qz⟩ => ?_) fun _ _ y => y)
  subst ez
  cases rz
  exact wpAny_truthy_bool ⟨.bl _, H', I', rfl, by simpa using qz⟩
theorem or_ownNotIn (q : OwnM X.K (G.at_ c) "__contains__" fa) (F : FnZ z X.prog X.w X.K X.mg X.base (L2.CX X.prog X.w) k fa fd ps (spF X.K G.at_ ps.length fs)) (h2 : ps.length = 2) (hr : Room k X.A) (hz : z = true → X.A.guards = some []) (tk : Takes X Wx) (hb : Binds X.K fd ps []) :
    OpS X (compareOp .NotIn) (rOwnIn X.K G Wx fs c true) := by
  intro pins s σ H x y v u Q I rx ry ⟨R, F0, L, M, w, uw, rel, r1, r2, hc, o⟩
  obtain ⟨a, dx, fl, rfl, ha⟩ := isCls_ok rel r1 hc
  obtain rfl : u = Value.ref a := ry
  obtain ⟨mA, J, _⟩ := ins_get I.hok ha
  obtain ⟨od, J, _⟩ := J.look
  obtain ⟨m, hF⟩ := I.fr
  refine PySem.W.notIn_K hF I.ok.mod.kin J q.at_ q.fn (wpAny_mono (call_at rfl F hr hz tk hb (vs := [.ref a, x]) I (.cons rfl (.cons rx .nil)) (by simp [h2]) rel (.cons r1 (.cons r2 .nil)) o) (fun v' s' ⟨z', H', I', rz, b, ez, qz⟩ => ?_) fun _ _ y => y)
  subst ez
  cases rz
  exact wpAny_truthy_bool ⟨.bl _, H', I', rfl, by simpa using qz⟩
theorem se_ownIn (ho : OpS X (compareOp op) (rOwnIn X.K G Wx fs c neg)) (fb : FnB fs) (ha : SE X G Wx a f) (hb : SE X G Wx b h) (hm : behindInMarks op b = false := by first | exact nomark _ | rfl) : SE X G Wx (.Compare a [op] [b] pos) (eOwnIn fs c neg f h) :=
  ⟨PE_imp (pe_cmpS ho ha.pe hb.pe hm) fun _ _ _ t => tOwnIn_of t, bel_ownIn fb ha.bel hb.bel⟩
theorem st_ownIn (ho : OpS X (compareOp op) (rOwnIn X.K G Wx fs c neg)) (fb : FnB fs) (ha : SE X G Wx a f) (hb : SE X G Wx b h) (hm : behindInMarks op b = false := by first | exact nomark _ | rfl) : ST X G Wx (.Compare a [op] [b] pos) (eB (eOwnIn fs c neg f h)) :=
  ⟨PT_imp (pt_cmpS ho ha.pe hb.pe hm) fun σ H Q t => by
    obtain ⟨R, F, L, st, ok, o⟩ := tB_of t
    exact tOwnIn_of ⟨R, F, L, st, ok, o⟩, bel_B (bel_ownIn fb ha.bel hb.bel)⟩
end
section
variable {Q : Res → S → Prop} {st : S} {f h : Ev Res} {fs : Fn} {c : Nat} {neg : Bool}
@[simp] theorem wp_ownIn : Wp (eOwnIn fs c neg f h st) Q ↔ Wp (evW f st) fun u s => Wp (evW h s) fun w s' => isCls s'.M c w = true ∧ Fw (fs [w, u] s'.M) fun r M' => ∃ k, r = .d (.bl k) ∧ Q (.d (.bl (xor neg k))) ⟨s'.sl, M', s'.b⟩ := by
  unfold eOwnIn; rw [wp_bind]
  constructor <;> intro hh <;> refine hh.mono fun w s z => ?_
  · rw [wp_bind] at z
    refine z.mono fun u s' z => ?_
    split at z
    · refine ⟨by assumption, ?_⟩
      rw [wp_bind, wp_callF] at z
      refine z.mono fun r M' z => ?_
      obtain ⟨r', e, z⟩ := wp_lift.mp z
      unfold ownOut at e
      split at e
      · cases e; exact ⟨_, rfl, z⟩
      · cases e
    · exact z.elim
  · rw [wp_bind]
    refine z.mono fun u s' z => ?_
    rw [if_pos z.1, wp_bind, wp_callF]
    refine z.2.mono fun r M' z => ?_
    obtain ⟨k, rfl, z⟩ := z
    exact wp_lift.mpr ⟨_, rfl, z⟩
end
end Pm

set_option maxHeartbeats 2000000
/-! Q48: xs[::-1] -/
namespace Pm
open PySem PyProof.Rows L2 He
theorem Reps.rev {K : PySem.W.Frag} {g : Nat → Addr} {F : Hp} : ∀ {ds : List D} {vs : List V}, Reps K g F ds vs → Reps K g F ds.reverse vs.reverse
  | _, _, .nil => .nil
  | _, _, .cons r rs => by
    rw [List.reverse_cons, List.reverse_cons]
    exact (Reps.rev rs).append (.cons r .nil)
def revM (M : List (Option Cell)) (w : W) : Option Res := match view M w with
  | some (.lst ds) => some (.new (.lst (ds.reverse.map .d)))
  | _ => none
def eRevL (f : Ev Res) : Ev Res := (evW f).bind fun w => fun st => Ev.lift (revM st.M w) st
section
variable {X : Cx} {G : Cl} {Wx : WX} {e : Expr} {f : Ev Res} {k : Nat} {p1 p2 p3 pos : Pos}
theorem se_revL (he : SE X G Wx e f) : SE X G Wx (.Subscript e (.Slice none none (some (.UnaryOp .USub (.Constant (.int 1) k p1) p2)) p3) pos) (eRevL f) :=
  ⟨PE_imp (pe_revL he.pe) fun σ H Q ⟨R, F, L, st, ok, o⟩ => tE_W ok (OutP.bind (f := evW f) o fun w st1 F1 L1 H1 x1 ok1 o1 v rv => by
      obtain ⟨r, er, o2⟩ := OutP.lift o1
      unfold revM at er
      split at er
      · rename_i ds e1
        cases er
        obtain ⟨a, vs, rfl, ha, r1⟩ := (ok1.rel.view rv e1).lst_inv ok1.rel.fh
        refine ⟨a, vs, rfl, SqL.of ha, fun p hp => ?_⟩
        obtain ⟨h1, h2⟩ := ok1.rel.newLst (G := G) hp (Reps.rev r1).toW
        exact o2 F1 L1 _ (.refl _ _) (ok1.with (.refl _) h1) _ h2
      · exact absurd er (by simp)),
    (bel_evW he.bel).bind fun w => .same fun st o st' e => by
      unfold Ev.lift at e
      split at e <;> cases e; rfl⟩
end
section
variable {Q : Res → S → Prop} {st : S} {f : Ev Res}
@[simp] theorem wp_revL : Wp (eRevL f st) Q ↔ Wp (evW f st) fun w s => ∃ r, revM s.M w = some r ∧ Q r s := by
  unfold eRevL
  rw [wp_bind]
  constructor <;> intro hh <;> refine hh.mono fun w s z => ?_
  · exact wp_lift.mp z
  · exact wp_lift.mpr z
end
end Pm

set_option maxHeartbeats 2000000
/-! Q49: for i, x in enumerate(l), l still a cell -/
namespace Pm
open PySem PyProof.Rows L2 He
def fLoopE (j : Nat) (k : D → S → Option S) (body : Ev Fl) : Nat → Nat → Ev Fl
  | 0, _ => Ev.fail
  | n + 1, i => fun st => match datsAt st.M j with
    | none => none
    | some ds => match ds[i]? with
      | none => some (.ok .nx, st)
      | some d => match k (.tup [.int (i : Nat), d]) st with
        | none => none
        | some st' => (body.bind (fLoopGo (fLoopE j k body n (i + 1)))) st'
def forE (k : D → S → Option S) (body : Ev Fl) : Res → Ev Fl
  | .loc j => fun st => match datsAt st.M j with
    | some ds => fLoopE j k body (ds.length + 1) 0 st
    | none => none
  | .d d => (Ev.lift ((lstD d).map enumD)).bind fun ds => fLoop k body ds
  | _ => Ev.fail
def fForE (f : Ev Res) (k : D → S → Option S) (body : Ev Fl) : Ev Fl := f.bind (forE k body)
theorem bel_loopE {j : Nat} {k : D → S → Option S} {body : Ev Fl} (ht : ∀ d st st', st.b ≤ st.M.length → k d st = some st' → Le st st') (hb : Bel body) : ∀ n i, Bel (fLoopE j k body n i)
  | 0, _ => .fail'
  | n + 1, i => fun st o st' hs e => by
    simp only [fLoopE] at e
    split at e
    · cases e
    · split at e
      · cases e; exact .refl _
      · split at e
        · cases e
        · rename_i st1 e1
          have l1 := ht _ _ _ hs e1
          exact l1.trans ((hb.bind (bel_go (bel_loopE ht hb n (i + 1)))) _ _ _ (l1.ok hs) e)
theorem bel_forE {k : D → S → Option S} {fb : Ev Fl} (hk : ∀ d st st', st.b ≤ st.M.length → k d st = some st' → Le st st') (hb : Bel fb) (r : Res) : Bel (forE k fb r) := by
  cases r with
  | loc j =>
    intro st o st' hs e
    simp only [forE] at e
    split at e
    · exact bel_loopE hk hb _ _ _ _ _ hs e
    · cases e
  | d x => exact Bel.bind .lift fun ds => bel_loop hk hb ds
  | new c => exact .fail'
  | ex c fs => exact .fail'
section
variable {X : Cx} {G : Cl} {Wx : WX} {pos p : Pos}
theorem forE_J {tg : Expr} {body : List Stmt} {k : D → S → Option S} {vs : List Nat} {fb : Ev Fl} {D0 : Ends} {R F1 : Hp} {L1 : List Addr} {σ : L2.St} {H1 : Hp} {st1 : S} {j n : Nat} {a : Addr} (hg : SG X G tg k vs) (hb : SB X G Wx body fb)
    (ok1 : Ok X.K G R F1 L1 st1 σ H1) (ha : L1[j]? = some a) (o1 : OutS X.K G Wx R F1 L1 D0 (fLoopE j k fb n 0 st1)) : tFor (fun _ H R => R (Ite X.K a) H) (tG X.K G k vs) (tS X.K G Wx fb) D0 σ H1 := by
  refine ⟨fun i m σ H => ∃ F' L' st', L'[j]? = some a ∧ Ok X.K G R F' L' st' σ H ∧ OutS X.K G Wx R F' L' D0 (fLoopE j k fb m i st'), ⟨n, F1, L1, st1, ha, ok1, o1⟩, ?_⟩
  rintro i m σ2 H2 ⟨F2, L2, st2, ha2, ok2, o2⟩
  cases m with
  | zero => exact o2.elim
  | succ m =>
    simp only [fLoopE] at o2
    cases e1 : datsAt st2.M j with
    | none => rw [e1] at o2; exact o2.elim
    | some ds =>
      rw [e1] at o2
      obtain ⟨ws, hw, rs⟩ := datsAt_ok ok2.rel ha2 e1
      have sq : SqL X.K H2 a ws := SqL.of hw
      dsimp only at o2
      cases e2 : ds[i]? with
      | none =>
        rw [e2] at o2
        exact .inl ⟨⟨ws, sq, by rw [← rs.length]; exact List.getElem?_eq_none_iff.mp e2⟩, o2 σ2 F2 L2 H2 (.refl _ _) ok2⟩
      | some d =>
        rw [e2] at o2
        dsimp only at o2
        obtain ⟨v, hv, rv⟩ := rs.get e2
        right
        refine ⟨⟨ws, v, sq, hv⟩, fun σ' H' => ∃ F' L' st', L'[j]? = some a ∧ Ok X.K G R F' L' st' σ' H' ∧ OutS X.K G Wx R F' L' D0 (fLoopE j k fb m (i + 1) st'), fun σ' H' q => ⟨m, Nat.lt_succ_self _, q⟩, fun x H3 hy => ?_⟩
        obtain ⟨T, y, ex, hT, eH, hx⟩ := hy
        have hx' := hx ws sq
        rw [hv] at hx'; cases hx'
        subst eH ex
        have rs2 : Reps X.K G.at_ F2 [D.int (i : Nat), d] [V.int (i : Nat), v] := .cons (.int _) (.cons rv .nil)
        obtain ⟨s3, rel3, r3⟩ := ok2.rel.newTup hT rs2
        have ok3 := ok2.with s3 rel3
        cases ek : k (.tup [.int (i : Nat), d]) st2 with
        | none => rw [ek] at o2; exact o2.elim
        | some st4 =>
          rw [ek] at o2
          refine ⟨R, _, L2, st2, _, st4, ok3, r3, ek, fun σ4 F4 H4 s4 _ ok4 => ⟨R, F4, L2, st4, ok4, OutS.seq (f := fb) (OutS.ext (.frz (s3.trans s4)) o2) fun fl st5 σ5 F5 L5 H5 x5 ok5 o5 => ?_⟩⟩
          have nxt : OutS X.K G Wx R F5 L5 D0 (fLoopE j k fb m (i + 1) st5) → ∃ F' L' st', L'[j]? = some a ∧ Ok X.K G R F' L' st' σ5 H5 ∧ OutS X.K G Wx R F' L' D0 (fLoopE j k fb m (i + 1) st') :=
            fun q => ⟨F5, L5, st5, prefix_get x5.l ha2, ok5, q⟩
          cases fl with
          | nx => exact nxt o5
          | ct => exact nxt o5
          | brk => exact o5 σ5 F5 L5 H5 (.refl _ _) ok5
          | ret r => exact o5 σ5 F5 L5 H5 (.refl _ _) ok5
theorem ss_forE {elts : List Expr} {kk : Nat} {tpos p1 pos1 : Pos} {e : Expr} {body : List Stmt} {f : Ev Res} {k : D → S → Option S} {vs : List Nat} {fb : Ev Fl} (hp : PassesOwn (model X.prog X.w) X.A X.env X.xe) (he : SE X G Wx e f) (hgl : Gl X "enumerate") (hm : X.mg "enumerate" = none)
    (hg : SG X G (.Tuple elts kk tpos) k vs) (hb : SB X G Wx body fb) (hs : starEach [e] X.env = (false, eval e X.env) :: starEach [] X.env := by rfl)
    (hc : X.calm = true := by rfl) (hfo : ∀ x, foldedSetIterable (.Call (.Name "enumerate" p1) [e] [] pos1) X.env x = pure x := by intro _; rfl) : SS X G Wx (.For (.Tuple elts kk tpos) (.Call (.Name "enumerate" p1) [e] [] pos1) body [] pos) (fForE f k fb) :=
  ⟨PS_imp (ps_for hp hc (pi_enum hgl hm (pa_cons he.pe pa_nil hs) hs) hg.pg hb.pss hfo) fun D0 σ H ⟨R, F, L, st, ok, o⟩ => ⟨R, F, L, st, ok, OutS.bind (f := f) o fun r st1 F1 L1 H1 x1 ok1 o1 v rv => by
    have other : ∀ (d : D), Rep X.K G.at_ F1 d v → OutS X.K G Wx R F1 L1 D0 (((Ev.lift ((lstD d).map enumD)).bind fun ds => fLoop k fb ds) st1) →
        ∃ (a : Addr) (xs : List V), [v] = [.ref a] ∧ SqL X.K H1 a xs ∧ tFor (fun _ H R => R (Ite X.K a) H) (tG X.K G k vs) (tS X.K G Wx fb) D0 σ H1 := fun d rd o2 => by
      cases ei : lstD d with
      | none => rw [ei] at o2; exact o2.elim
      | some ds =>
        rw [ei] at o2
        have o3 : OutS X.K G Wx R F1 L1 D0 (fLoop k fb (enumD ds) st1) := o2
        cases rd <;> simp only [lstD] at ei <;> cases ei
        · rename_i q t; exact ⟨_, _, rfl, SqL.of (ok1.rel.fh _ _ q), for_J hg hb ok1 o3 (ite_ok (SqL.of q) t)⟩
        · rename_i q t; exact ⟨_, _, rfl, sub_l ok1.rel.fh q, for_J hg hb ok1 o3 (ite_ok q t)⟩
    cases r with
    | loc j =>
      obtain ⟨a, ha, rfl⟩ := rv
      simp only [forE] at o1
      cases e1 : datsAt st1.M j with
      | none => rw [e1] at o1; exact o1.elim
      | some ds =>
        rw [e1] at o1
        obtain ⟨ws, hw, rs⟩ := datsAt_ok ok1.rel ha e1
        exact ⟨a, ws, rfl, SqL.of hw, forE_J hg hb ok1 ha o1⟩
    | d x => exact other x rv o1
    | new c => exact o1.elim
    | ex c fs => exact o1.elim⟩, he.bel.bind (bel_forE hg.bel hb.bel)⟩
end
/-! ### plain reasoning -/
section
variable {QF : Fl → S → Prop} {E : Exc → S → Prop} {st : S} {k : D → S → Option S} {body : Ev Fl} {f : Ev Res}
def srcE' (M : List (Option Cell)) : Res → Option (List D)
  | .loc j => datsAt M j
  | .d x => lstD x
  | _ => none
theorem forE_wp (r : Res) {ds : List D} (Inv : Nat → S → Prop) (hI : ∀ i s, Inv i s → srcE' s.M r = some ds) (h0 : Inv 0 st) (step : ∀ i d s, ds[i]? = some d → Inv i s → ∃ s', k (.tup [.int (i : Nat), d]) s = some s' ∧ Wp (body s') fun fl s2 => match fl with
    | .nx => Inv (i + 1) s2
    | .ct => Inv (i + 1) s2
    | .brk => QF .nx s2
    | .ret r => QF (.ret r) s2) (fin : ∀ s, Inv ds.length s → QF .nx s) : Wp (forE k body r st) QF := by
  have e0 := hI 0 st h0
  cases r with
  | d x =>
    simp only [srcE'] at e0
    simp only [forE]
    rw [wp_bind]
    refine wp_lift.mpr ⟨enumD ds, by rw [e0]; rfl, wp_loop Inv h0 (fun i d s hd hi => ?_) (fun s hs => fin s (by simpa using hs))⟩
    unfold enumD at hd
    rw [List.getElem?_map] at hd
    obtain ⟨q, hq, rfl⟩ := Option.map_eq_some_iff.mp hd
    rw [List.getElem?_zipIdx] at hq
    obtain ⟨d0, hd0, rfl⟩ := Option.map_eq_some_iff.mp hq
    simp only [Nat.zero_add]
    exact step i d0 s hd0 hi
  | loc j =>
    simp only [srcE'] at e0
    simp only [forE]
    rw [e0]
    dsimp only
    have key : ∀ (n i : Nat) (s : S), ds.length + 1 = i + n → i ≤ ds.length → Inv i s → Wp (fLoopE j k body n i s) QF := by
      intro n
      induction n with
      | zero => intro i s h1 h2; omega
      | succ n ih =>
        intro i s h1 h2 h
        have e1 : datsAt s.M j = some ds := hI i s h
        simp only [fLoopE]
        rw [e1]
        dsimp only
        rcases Nat.lt_or_ge i ds.length with hl | hl
        · obtain ⟨s', e, w⟩ := step i ds[i] s (List.getElem?_eq_getElem hl) h
          rw [List.getElem?_eq_getElem hl]
          dsimp only
          rw [e]
          dsimp only
          rw [wp_bind]
          refine w.mono fun fl s2 z => ?_
          cases fl with
          | nx => exact ih (i + 1) s2 (by omega) (by omega) z
          | ct => exact ih (i + 1) s2 (by omega) (by omega) z
          | brk => exact z
          | ret r => exact z
        · obtain rfl : i = ds.length := by omega
          rw [List.getElem?_eq_none_iff.mpr (Nat.le_refl _)]
          exact fin s h
    exact key _ 0 st (by omega) (Nat.zero_le _) h0
  | new c => simp only [srcE'] at e0; cases e0
  | ex c fs => simp only [srcE'] at e0; cases e0
@[simp] theorem wp_forE : Wp (fForE f k body st) QF ↔ Wp (f st) fun r s => Wp (forE k body r s) QF := by unfold fForE; rw [wp_bind]
end
end Pm

set_option maxHeartbeats 2000000
/-! Q50: own exceptions of one field over another built-in class (LookupError) -/
namespace Pm
open PySem PyProof.Rows L2 He
abbrev leTail : List Value := [.type "LookupError", .type "Exception", .type "BaseException", .type "object"]
/-- a class of errors over LookupError -/
structure OexL (K : PySem.W.Frag) (C : Addr) : Prop where
  ini : PySem.W.excInitIn K C leTail "LookupError.__new__" = true
  ov : PySem.W.excOver K C leTail = true
  hd : PySem.W.hasDictIn K C = true
  sa : PySem.W.findIn K (.ref C) "__setattr__" = some (some (.builtin "object.__setattr__"))
  exC : PySem.W.subIn K (.ref C) (.type "BaseException") = some true
  tyC : PySem.W.typeIn K (.ref C) = some (.type "type")
  kC : PySem.W.keepIn K (.ref C) = true
section
open PySem.HandSPX Builtin Builtin.ObjectAttr
variable {prog : Program} {w : World} {A : Around} {R : Result → Shared → Prop} {hp : Heap} {g : Array GenState} {d : Drawn} {t : Nat} {os : OsState} {K : PySem.W.Frag}
theorem osa_first {nm : Str} {tk : Tok} {v : Value} {x C : Addr} {fv : Array Value} (X : K.In hp) (T : OexL K C) (hx : hp.get? x = some { cls := .ref C, data := .fields fv }) (ha : PySem.W.findIn K (.ref C) nm = some none)
    (fin : ∀ h' tk' dx, (∀ b o, b ≠ x → hp.get? b = some o → h'.get? b = some o) → hp.objs.size ≤ dx → dx ≠ x → h'.get? x = some { cls := .ref C, dict := some dx, data := .fields fv } → h'.Ns1 dx (fun y => if y = nm then some v else none) → R (.ok (.ret .none)) ⟨h', g, d, tk', os⟩) :
    codeAny (model prog w) A (.call (.builtin "object.__setattr__") ⟨[.ref x, .str nm tk, v], []⟩) R ⟨hp, g, d, t, os⟩ := by
  have hxs : x ≠ hp.objs.size := Nat.ne_of_lt (Heap.lt_size hx)
  have ht : PySem.W.takerIn K C nm = some none := by unfold PySem.W.takerIn; rw [ha]; rfl
  refine PySem.W.osa_openX (s := ⟨hp, g, d, t, os⟩) (od := none) F.store_LookupError X ⟨hx, rfl, rfl, trivial⟩ T.ov ht fun b => ?_
  obtain ⟨cd, hc, hdd⟩ := PySem.W.any_some T.hd
  have lc : PySem.W.Looks (model prog w) hp (classData C) cd := PySem.W.looks_clsIn X hc
  obtain ⟨n1, bs, mro, ns, qn, hdict, sn, sb, ab, col, del⟩ := cd
  dsimp only at hdd
  subst hdd
  show wpAny _ _ (storeInOwnDict (.ref x) (.ref C) (.str nm tk) nm v b) _ _ _
  unfold storeInOwnDict ownDictForStores
  repeat (first | with_reducible refine store_in_new ?_ ?_ | with_reducible refine wpAny_loadPart_at hx ?_ | with_reducible refine lc.at ?_ | wp_step)
  · exact ⟨_, #[], _, (Heap.get?_update_ne _ _ _ _ hxs.symm).trans (Heap.get?_push_at rfl rfl), rfl, fun e he => absurd he (by simp), fun _ => rfl⟩
  · intro h' tk' hn' hs
    have x2 : (hp.push { cls := .type "dict", data := .dict #[] }).get? x = some { cls := .ref C, data := .fields fv } := Heap.get?_push_of_some _ hx
    exact fin h' tk' hp.objs.size (fun b o hb ho => (hs.2 b (Nat.ne_of_lt (Heap.lt_size ho))).trans ((Heap.get?_update_ne _ _ _ _ hb).trans (Heap.get?_push_of_some _ ho))) (Nat.le_refl _) hxs.symm
      ((hs.2 x hxs).trans (Heap.get?_update_self _ x2 rfl)) hn'
end
section
variable {X : Cx} {pins : List (Addr × Obj)} {σ : L2.St} {H : Hp} {s : Shared} {a C : Addr} {f : Str} {y : V} {u : Value} {Q : Unit → Shared → Prop} {E : Value → Shared → Prop} {A : Around}
/-- self.f = y, the first one -/
theorem ostL (T : OexL X.K C) (I : Inv X pins σ H s) (e : H a = some (exo a C none)) (hno : PySem.W.findIn X.K (.ref C) f = some none) (ry : RelV y u)
    (fin : ∀ dx s', H dx = none → dx ≠ a → Inv X pins σ (upd (upd H dx (exd dx [(f, y)])) a (exo a C (some dx))) s' → Q () s') : wpAny (model X.prog X.w) A (setAttr (.ref a) f u) Q E s := by
  obtain ⟨t1, ho⟩ := exo_at I.hok e
  obtain ⟨hp, g, d, t, os⟩ := s
  refine PySem.W.set_plain I.kIn (ox := { cls := .ref C, dict := none, data := .fields #[.ref t1, .none, .none, .none, .bool false, .none] }) (od := none) ⟨ho, rfl, rfl, trivial⟩ T.sa ?_
  refine osa_first I.kIn T ho hno fun h' tk' dx k dn dne hx hn => ?_
  have free : H dx = none := I.hok.fresh dn
  have lt : ∀ {b : Addr} {o : Obj}, hp.get? b = some o → b ≠ dx := fun {b o} q => Nat.ne_of_lt (Nat.lt_of_lt_of_le (Heap.lt_size q) dn)
  have na : ∀ {b : Addr}, H b = none → b ≠ a := fun {b} n z => by
    rw [z, e] at n
    cases n
  have un : Un X.fs [] H (upd (upd H dx (exd dx [(f, y)])) a (exo a C (some dx))) hp h' := {
    keep := fun b o q n _ _ => k b o (na n) q
    slot := fun b o q n _ _ => ⟨o.slots, k b o (na n) q⟩
    free := fun b o q n _ => by rw [upd_ne (na n), upd_ne (lt q)]; exact n
    there := fun b o q _ => by
      rcases Classical.em (b = a) with hb | hb
      · exact ⟨_, by rw [hb]; exact hx⟩
      · exact ⟨o, k b o hb q⟩
    tups := fun b xs q => by rw [upd_ne (at_ne e q exo_tup), upd_ne (ne_of_none q free)]; exact q
    frzs := fun b o v q => by rw [upd_ne (at_ne e q exo_frz), upd_ne (ne_of_none q free)]; exact q
    tbls := fun b ps q => ⟨#[], by rw [upd_ne (at_ne e q exo_tbl), upd_ne (ne_of_none q free), q]; simp⟩ }
  refine fin dx _ free dne (I.un (t' := tk') un fun b o q => ?_)
  rcases Classical.em (b = a) with hb | hb
  · subst hb
    rw [upd_same] at q
    cases q
    exact exo_ok hx
  · rw [upd_ne hb] at q
    rcases Classical.em (b = dx) with hd | hd
    · subst hd
      rw [upd_same] at q
      cases q
      exact exd_ok hn (relO_put (fs := []) ry fun _ => True.intro)
    · rw [upd_ne hd] at q
      refine (I.hok b o q).stay (fun c v hc z => k c v ?_ z) (fun c hc => ?_) fun c xs hc => ?_
      · rcases hc with hc | hc
        · rw [hc]; exact hb
        · exact at_ne e hc exo_own
      · rw [upd_ne (at_ne e hc exo_own), upd_ne (ne_of_none hc free)]; exact hc
      · rw [upd_ne (at_ne e hc exo_tup), upd_ne (ne_of_none hc free)]; exact hc
end
/-! ### its def: self.f = x -/
def spL (K : PySem.W.Frag) (f : Str) : Sp := fun vs H Q _ => ∃ (a C : Addr) (y : V), vs = [.ref a, y] ∧ H a = some (exo a C none) ∧ OexL K C ∧ PySem.W.findIn K (.ref C) f = some none ∧
  ∀ dx, H dx = none → dx ≠ a → Q .non (upd (upd H dx (exd dx [(f, y)])) a (exo a C (some dx)))
def tOsl (K : PySem.W.Frag) (f : Str) (to te : TE) : TS := fun D σ H => te σ H fun y H1 => to σ H1 fun x H2 => ∃ a C : Addr, x = .ref a ∧ OexL K C ∧ PySem.W.findIn K (.ref C) f = some none ∧ H2 a = some (exo a C none) ∧
  ∀ dx, H2 dx = none → dx ≠ a → D.nx σ (upd (upd H2 dx (exd dx [(f, y)])) a (exo a C (some dx)))
theorem ps_osl {X : Cx} {o e : Expr} {to te : TE} {f : Str} {p' pos : Pos} (ho : PE X o to) (he : PE X e te) (hs : swapsWith e (some (.Attribute o f p')) pos.line X.env = pure false := by rfl) : PS X (.Assign [.Attribute o f p'] e pos) (tOsl X.K f to te) := by
  refine ⟨fun pins s σ H D I h => ?_⟩
  refine plainObj_wpAny_Assign_Attribute (thn (he.run pins s σ H _ I h) fun v s1 ⟨y, H1, I1, r1, q1⟩ => thn (ho.run pins s1 σ H1 _ I1 q1) fun u s2 ⟨x, H2, I2, r2, a, C, ex, T, hno, ea, q⟩ => ?_) hs
  subst ex
  cases r2
  exact ostL T I2 ea hno r1 fun dx s' n ne J => ⟨σ, _, J, q dx n ne⟩
theorem spL_run {K : PySem.W.Frag} {f : Str} {N : List Str} {vs : List V} {H : Hp} {Q : VK} {E : XK} (hN : N.length = 2) (h : spL K f vs H Q E) : tOsl K f (tVar 0) (tVar 1) { nx := fun _ H' => Q .non H', rt := Q } (L2.start N vs) H := by
  obtain ⟨a, C, y, rfl, h1, h2, h3, h4⟩ := h
  have e : L2.start N [.ref a, y] = [some (.ref a), some y] := by
    unfold L2.start
    rw [hN]; rfl
  rw [e]
  exact ⟨y, rfl, .ref a, rfl, a, C, rfl, h2, h3, h1, h4⟩
theorem spL_len {K : PySem.W.Frag} {f : Str} {vs : List V} {H : Hp} {Q : VK} {E : XK} (h : spL K f vs H Q E) : vs.length = 2 := by
  obtain ⟨a, C, y, rfl, _⟩ := h
  rfl
/-! ### raise C(e) -/
section
variable {X : Cx} {G : Cl} {Wx : WX} {pos pos2 p : Pos} {e : Expr} {es : List Expr} {ta : TA} {fa : Ev (List W)} {c k : Nat} {fI C : Addr} {fd : FuncData} {ps : List Str} {fld x : Str} {sp : Sp}
theorem pmk_L (T : OexL X.K C) (iC : PySem.W.findIn X.K (.ref C) "__init__" = some (some (.ref fI))) (tI : PySem.W.typeIn X.K (.ref fI) = some (.type "function"))
    (F1 : FnOk X.prog X.w X.K X.mg X.base (L2.CX X.prog X.w) k fI fd ps sp) (hr : Room (k + 1) X.A) (hb : Binds X.K fd ps []) (hx : Passes (L2.CX X.prog X.w) X (fun _ _ _ => False)) (hg : Gl X x) (hm : X.mg x = some (.ref C)) (ha : PA X (e :: es) ta)
    (hdb : (x == ("__debug__" : Str)) = false := by decide) (he : starEach (e :: es) X.env = (false, eval e X.env) :: starEach es X.env := by rfl) (hpl : (backTo pos (starEach es X.env)).any (·.1) = false := by rfl) :
    PMk X (.Call (.Name x p) (e :: es) [] pos) (tMkO C sp [] ta) := by
  intro pins s σ H Q I h
  refine wpAny_Call_Name_kw (ld_glob I hg hm ?_ hdb)
  refine PySem.W.callWith_K (h₀ := X.base) I.ok.mod.kin T.kC (thn (ha.run pos pins s σ H _ I h) fun us s1 ⟨vs, H1, I1, r1, hz, q1⟩ => ⟨I1.kIn, ?_⟩) he hpl
  show wpAny _ _ (call (.ref C) us) _ _ _
  obtain ⟨nm, N, qn, bs, bm, hdct, sn, sub, ab, col, dd, k0, k1, k2, k3, k5, hC, hT⟩ := PySem.W.excInit_of I1.kIn T.ini
  obtain ⟨hp, g, dr, tk, os⟩ := s1
  have sz : hp.objs.size ≤ hp.objs.size + 1 := Nat.le_succ _
  have q0 := q1 (hp.objs.size + 1) (I1.hok.fresh sz)
  have kk : ∀ b o, hp.get? b = some o → ((hp.push (PySem.W.kdv_tup us)).push (PySem.HandSPX.excO C hp.objs.size)).get? b = some o := fun b o e => Heap.get?_push_of_some _ (Heap.get?_push_of_some _ e)
  have at_ : ((hp.push (PySem.W.kdv_tup us)).push (PySem.HandSPX.excO C hp.objs.size)).get? (hp.objs.size + 1) = some (PySem.HandSPX.excO C hp.objs.size) := by heap_get
  have I2 : Inv X pins σ (upd H1 (hp.objs.size + 1) (exo (hp.objs.size + 1) C none)) ⟨(hp.push (PySem.W.kdv_tup us)).push (PySem.HandSPX.excO C hp.objs.size), g, dr, tk, os⟩ := I1.laid (t' := tk) (a := hp.objs.size + 1) kk sz (exo_ok at_)
  rw [List.append_nil] at q0
  have r2 : Vals (V.ref (hp.objs.size + 1) :: vs) (Value.ref (hp.objs.size + 1) :: us) := .cons rfl r1
  have hl : (Value.ref (hp.objs.size + 1) :: us).length = ps.length := by
    have e := r2.length
    rw [F1.len _ _ _ _ q0] at e
    exact e.symm
  have few : us.length ≤ sizeLine := by
    rw [← Paired.length r1, sizeLine_eq]
    omega
  have bnd := hb _ (Value.ref (hp.objs.size + 1) :: us) I2.kIn (by simpa using hl)
  rw [List.append_nil] at bnd
  refine wpAny_call (PySem.HandSPX.call_own F.excBase_LookupError hT hC (PySem.W.looks_findIn I1.kIn iC) (fun self => PySem.W.bind_fn I1.kIn self tI) few
    (codeAny_mono (F1.run _ X.stack _ _ ⟨Value.ref (hp.objs.size + 1) :: us, []⟩ (Value.ref (hp.objs.size + 1) :: us) _ _ (fun _ _ _ => False) (hr.make C us []) (I2.env0.make C us []) bnd r2 q0) fun r s' back => ?_))
  cases r with
  | error er => exact hx pins σ _ _ er s' I2 back
  | ok fl =>
    cases fl with
    | ret u =>
      obtain ⟨v, H2, os2, bare2, un2, hok2, rv, ev, d, fs, ea, ed, hd1, q2⟩ := back
      subst ev
      obtain ⟨h2, g2, d2, t2, os'⟩ := s'
      exact ⟨rv, mk_end (raises_own T.exC T.tyC) I1 sz kk un2 hok2 os2 bare2 ea ed hd1 q2⟩
    | next => exact back.elim
    | brk => exact back.elim
    | cont => exact back.elim
theorem ss_raiseL (T : OexL X.K (G.at_ c)) (hno : PySem.W.findIn X.K (.ref (G.at_ c)) fld = some none) (iC : PySem.W.findIn X.K (.ref (G.at_ c)) "__init__" = some (some (.ref fI))) (tI : PySem.W.typeIn X.K (.ref fI) = some (.type "function"))
    (F1 : FnOk X.prog X.w X.K X.mg X.base (L2.CX X.prog X.w) k fI fd ps (spL X.K fld)) (hr : Room (k + 1) X.A) (hb : Binds X.K fd ps []) (tk : Takes X Wx) (hg : Gl X x) (hm : X.mg x = some (.ref (G.at_ c))) (ha : SA X G Wx [e] fa) (hc : X.calm = true := by rfl)
    (hdb : (x == ("__debug__" : Str)) = false := by decide) (he : starEach [e] X.env = (false, eval e X.env) :: starEach [] X.env := by rfl) (hpl : (backTo pos (starEach [] X.env)).any (·.1) = false := by rfl) :
    SS X G Wx (.Raise (some (.Call (.Name x p) [e] [] pos)) none pos2) (fRaise c fld fa) :=
  ⟨PS_imp (ps_raise hc tk (pmk_L T iC tI F1 hr hb (fun _ _ _ _ _ _ _ h => by
      obtain ⟨_, _, _, _, _, _, _, _, _, _, _, _, z⟩ := h
      exact z.elim) hg hm ha.pa hdb he hpl)) fun D σ H ⟨R, F, L, st, ok, o⟩ => by
    refine ⟨R, F, L, st, ok, OutS.bind (f := fa) o fun ws st1 F1 L1 H1 x1 ok1 o1 vs rvs => ?_⟩
    match ws, rvs, o1 with
    | [.d d], .cons (v := v) r .nil, o1 =>
      refine ⟨by simp, fun a ha => ⟨a, _, v, rfl, upd_same, T, hno, fun dx hd ne => ⟨rfl, dx, _, upd_same, by rw [upd_ne ne, upd_same], by rw [upd_ne ne] at hd; exact hd, ?_⟩⟩⟩
      have hd1 : H1 dx = none := by rw [upd_ne ne] at hd; exact hd
      have eH : upd (L2.del (upd (upd (upd H1 a (exo a (G.at_ c) none)) dx (exd dx [(fld, v)])) a (exo a (G.at_ c) (some dx))) a) dx (.xd [(fld, v)]) = upd H1 dx (.xd [(fld, v)]) := by
        funext b
        by_cases q : b = dx
        · rw [q, upd_same, upd_same]
        · rw [upd_ne q, upd_ne q]
          by_cases qa : b = a
          · rw [qa, L2.del_same, ha]
          · rw [L2.del_ne qa, upd_ne qa, upd_ne q, upd_ne qa]
      rw [eH]
      obtain ⟨s1, rel⟩ := ok1.rel.newF (o := .xd [(fld, v)]) hd1
      exact o1 σ (upd F1 dx (.xd [(fld, v)])) L1 (upd H1 dx (.xd [(fld, v)])) dx _ (.frz s1) (ok1.with s1 rel) upd_same (.cons (r.mono s1) .nil)
    | [], _, o1 => exact o1.elim
    | .loc _ :: _, _, o1 => exact o1.elim
    | .d _ :: _ :: _, _, o1 => exact o1.elim, ha.bel.bind fun ws => by
      match ws with
      | [.d d] => exact fun st o st' _ e => by cases e; exact .refl _
      | [] => exact .fail'
      | .loc _ :: _ => exact .fail'
      | .d _ :: _ :: _ => exact .fail'⟩
end
/-! ### facts -/
structure XcL (K : PySem.W.Frag) (C : Addr) (f : Str) (fi : Addr) : Prop where
  ox : OexL K C
  no : PySem.W.findIn K (.ref C) f = some none
  ini : PySem.W.findIn K (.ref C) "__init__" = some (some (.ref fi))
  ty : PySem.W.typeIn K (.ref fi) = some (.type "function")
  xf : XfC K C
  is : IsE K C
def xcL (K : PySem.W.Frag) (C : Addr) (f : Str) (fi : Addr) : Bool := PySem.W.excInitIn K C leTail "LookupError.__new__" && (PySem.W.excOver K C leTail && (PySem.W.hasDictIn K C && (eqO (PySem.W.findIn K (.ref C) "__setattr__") (some (some (.builtin "object.__setattr__"))) &&
  (decide (PySem.W.typeIn K (.ref C) = some (.type "type")) && (PySem.W.keepIn K (.ref C) && (eqO (PySem.W.findIn K (.ref C) f) (some none) && (eqO (PySem.W.findIn K (.ref C) "__init__") (some (some (.ref fi))) && (decide (PySem.W.typeIn K (.ref fi) = some (.type "function")) && (xfB K C && isEB K C)))))))))
theorem xcL_ok {K : PySem.W.Frag} {C : Addr} {f : Str} {fi : Addr} (h : xcL K C f fi = true) : XcL K C f fi := by
  obtain ⟨g1, h⟩ := ba h
  obtain ⟨g2, h⟩ := ba h
  obtain ⟨g3, h⟩ := ba h
  obtain ⟨h2, h⟩ := ba h
  obtain ⟨h3, h⟩ := ba h
  obtain ⟨h4, h⟩ := ba h
  obtain ⟨h5, h⟩ := ba h
  obtain ⟨h6, h⟩ := ba h
  obtain ⟨h7, h⟩ := ba h
  obtain ⟨h8, h⟩ := ba h
  have x := xfB_ok h8
  unfold isEB at h
  obtain ⟨i1, h⟩ := ba h
  obtain ⟨i2, h⟩ := ba h
  obtain ⟨i3, h⟩ := ba h
  obtain ⟨i4, i5⟩ := ba h
  exact ⟨⟨g1, g2, g3, eqO_ok h2, x.exC, of_decide_eq_true h3, h4⟩, eqO_ok h5, eqO_ok h6, of_decide_eq_true h7, x, ⟨i1, x.ga, x.gg, x.exC, eqO_ok i2, eqO_ok i3, of_decide_eq_true i4, of_decide_eq_true i5⟩⟩
end Pm

set_option maxHeartbeats 2000000
/-! Q51: staticmethods, a global tuple's index, isinstance(e, (A, B)) of an own exception; a head for defs inside a staticmethod -/
namespace Pm
open PySem PyProof.Rows L2 He
section
variable {X : Cx} {G : Cl} {Wx : WX} {e : Expr}
theorem se_never : SE X G Wx e Ev.fail := ⟨⟨fun pins s σ H Q I ⟨R, F, L, st, ok, o⟩ => o.elim⟩, .fail'⟩
end
/-! ### C.m(..), m a staticmethod -/
structure SMet (K : PySem.W.Frag) (C : Addr) (m : Str) (g : Addr) : Prop where
  at_ : ∃ p, PySem.W.findCls K (.ref C) (.type "type") m = some (.get (.builtin "staticmethod.__get__") (.ref p) .none (.ref C)) ∧ ∃ rest, PySem.W.recIn K p "staticmethod" = some (.ref g :: rest)
  rd : PySem.W.readsIn K C (.type "type") = true
  ga : PySem.W.specialIn K (.ref C) "__getattribute__" = some (some (.builtin "type.__getattribute__"))
def smetB (K : PySem.W.Frag) (C : Addr) (m : Str) : Bool := He5.wrapB K C "staticmethod" "staticmethod.__get__" m && (PySem.W.readsIn K C (.type "type") && eqO (PySem.W.specialIn K (.ref C) "__getattribute__") (some (some (.builtin "type.__getattribute__"))))
theorem smetB_ok {K : PySem.W.Frag} {C : Addr} {m : Str} (h : smetB K C m = true) : SMet K C m (He5.wf K C "staticmethod" m) := by
  obtain ⟨h1, h⟩ := ba h
  obtain ⟨h2, h3⟩ := ba h
  obtain ⟨w1, w2⟩ := He5.wrapB_ok h1
  exact ⟨⟨_, w1, w2⟩, h2, eqO_ok h3⟩
def tSm (C : Addr) (to : TE) (t tk : TA) (fin : TF) : TE := fun σ H Q => to σ H fun x H1 => x = .ref C ∧ t σ H1 fun vs H2 => tk σ H2 fun zs H3 => fin vs zs σ H3 Q
section
variable {X : Cx} {fin : TF} {f C : Addr} {m : Str} {pos apos : Pos} {e o : Expr} {es : List Expr} {kws : List Keyword} {ks : List Str} {to : TE} {t tk : TA}
theorem pv_smeth {pl : Sem Bool} (c : CallV X (.ref f) ks fin) (ho : PE X o to) (S : SMet X.K C m f) (hk : PySem.W.keepIn X.K (.ref f) = true) (ha : PA X (e :: es) t) (hkw : PK X kws tk)
    (hall : (backToKw pos (keywordEach kws X.env)).all (·.1.isSome) = true := by rfl) (hks : (backToKw pos (keywordEach kws X.env)).filterMap (·.1) = ks := by rfl)
    (he : starEach (e :: es) X.env = (false, eval e X.env) :: starEach es X.env := by rfl) (hpl : ((backTo pos (starEach (e :: es) X.env)).any (·.1) || (backToKw pos (keywordEach kws X.env)).any (·.1.isNone)) = false := by rfl)
    (ht : eval (.Call (.Attribute o m apos) (e :: es) kws pos) X.env = (do
      let ov ← eval o X.env
      standAt apos.atName
      let (f, first) ← holding [ov] (getMethod ov m pl)
      callWith pos f first (backTo pos (starEach (e :: es) X.env)) (backToKw pos (keywordEach kws X.env))) := by rfl) :
    PE X (.Call (.Attribute o m apos) (e :: es) kws pos) (tSm C to t tk fin) := by
  refine ⟨fun pins s σ H Q I h => ?_⟩
  refine PySem.W.methodCall_KW (pl := pl) (thn (ho.run pins s σ H _ I h) fun u s1 ⟨x, H1, I1, rx, ex, q⟩ => ?_) ht
  subst ex
  obtain rfl : u = Value.ref C := rx
  obtain ⟨p, h1, rest, h2⟩ := S.at_
  refine PySem.W.method_cls I1.kIn S.ga (PySem.W.cls_bind I1.kIn S.rd h1 (wpAny_call (PySem.W.sm_get (s := { s1 with toks := s1.toks + 1 }) I1.kIn h2 (PySem.W.handed_on rfl ?_))))
  have I2 : Inv X pins σ H1 { s1 with toks := s1.toks + 1 } := I1.tok _
  refine PySem.W.callWith_KW (first := []) (h₀ := X.base) I.ok.mod.kin hk hall (thn (ha.run pos pins _ σ H1 _ I2 q) fun us s2 ⟨vs, H2, I3, r, q2⟩ => ?_) hpl he
  refine thn (hkw.run pos pins s2 σ H2 _ I3 q2) fun ws s3 ⟨zs, H3, I4, rz, q3⟩ => ⟨I4.kIn, ?_⟩
  rw [hks]
  exact c pins s3 σ H3 us ws vs zs Q I4 r rz q3
end
section
variable {X : Cx} {G : Cl} {Wx : WX} {k : Nat} {f : Addr} {ks : List Str} {n c : Nat} {gW : List W → List W → List W} {fs : Fn} {m : Str} {pos apos : Pos} {e o : Expr} {es : List Expr} {kws : List Keyword} {fa fk : Ev (List W)}
theorem se_smeth {pl : Sem Bool} (fb : FnB fs) (cv : CallV X (.ref f) ks (finF X.K G Wx fs n ks.length gW)) (S : SMet X.K (G.at_ c) m f) (hk : PySem.W.keepIn X.K (.ref f) = true) (ho : SE X G Wx o (eC (.cls c))) (ha : SA X G Wx (e :: es) fa) (hkw : SK X G Wx kws fk)
    (hall : (backToKw pos (keywordEach kws X.env)).all (·.1.isSome) = true := by rfl) (hks : (backToKw pos (keywordEach kws X.env)).filterMap (·.1) = ks := by rfl)
    (he : starEach (e :: es) X.env = (false, eval e X.env) :: starEach es X.env := by rfl) (hpl : ((backTo pos (starEach (e :: es) X.env)).any (·.1) || (backToKw pos (keywordEach kws X.env)).any (·.1.isNone)) = false := by rfl)
    (ht : eval (.Call (.Attribute o m apos) (e :: es) kws pos) X.env = (do
      let ov ← eval o X.env
      standAt apos.atName
      let (f, first) ← holding [ov] (getMethod ov m pl)
      callWith pos f first (backTo pos (starEach (e :: es) X.env)) (backToKw pos (keywordEach kws X.env))) := by rfl) :
    SE X G Wx (.Call (.Attribute o m apos) (e :: es) kws pos) (eCallK fs gW n ks.length fa fk) :=
  ⟨PE_imp (pv_smeth cv ho.pe S hk ha.pa hkw.pk hall hks he hpl ht) fun σ H Q ⟨R, F, L, st, ok, q⟩ => by
    refine ⟨R, F, L, st, ok, fun F1 L1 H1 x1 ok1 v rv => ?_⟩
    cases rv
    refine ⟨rfl, ?_⟩
    refine args_of (F0 := F1) (L := L1) ok1 ?_
    exact OutP.ext x1 q, bel_callK fb ha.bel hkw.bel⟩
end
/-! ### T.index(k), T a tuple of texts among the module's names -/
def strL : List Value → List Str → Bool
  | [], [] => true
  | .str y _ :: vs, z :: ys => decide (y = z) && strL vs ys
  | _, _ => false
theorem strL_ok : ∀ {vs : List Value} {ys : List Str}, strL vs ys = true → StrsAre vs ys
  | [], [], _ => .nil
  | .str y t :: vs, z :: ys, h => by
    obtain ⟨h1, h2⟩ := ba (show (decide (y = z) && strL vs ys) = true from h)
    cases of_decide_eq_true h1
    exact .cons y t (strL_ok h2)
def GIdx (K : PySem.W.Frag) (mg : Str → Option Value) (x : Str) (ys : List Str) : Prop := ∃ a o its n, mg x = some (.ref a) ∧ K.lookup a = some o ∧ o.cls = .type "tuple" ∧ o.dict = none ∧ o.data = .seq its n ∧ StrsAre its.toList ys
def gidxB (K : PySem.W.Frag) (x : Str) (ys : List Str) : Bool := match PySem.W.nsIn K mainGlobals x with
  | some (some (.ref a)) => (match K.lookup a with
    | some ⟨.type c, none, .seq its _, _⟩ => decide (c = "tuple") && strL its.toList ys
    | _ => false)
  | _ => false
theorem gidxB_ok {K : PySem.W.Frag} {h : Heap} {mg : Str → Option Value} {x : Str} {ys : List Str} (X : K.In h) (G : h.Ns mainGlobals mg) (c : gidxB K x ys = true) : GIdx K mg x ys := by
  unfold gidxB at c
  split at c
  · rename_i a e
    split at c
    · rename_i d its n sl q
      obtain ⟨h1, h2⟩ := ba c
      exact ⟨a, _, its, n, PySem.W.mg_of X G e, q, by rw [of_decide_eq_true h1], rfl, rfl, strL_ok h2⟩
    · cases c
  · cases c
def rGidx (K : PySem.W.Frag) (mg : Str → Option Value) (x : Str) (ys : List Str) : V → List V → Hp → VK → Prop := fun v xs H Q => ∃ a k, v = .ref a ∧ mg x = some (.ref a) ∧ xs = [.str k] ∧ k ∈ ys ∧ Q (.int (ys.idxOf k : Nat)) H
def eGix (ys : List Str) (h : Ev Res) : Ev Res := (evD h).bind fun d => match d with
  | .str k => if k ∈ ys then Ev.pure (.d (.int (ys.idxOf k : Nat))) else Ev.fail
  | _ => Ev.fail
section
variable {X : Cx} {G : Cl} {Wx : WX} {p apos cpos : Pos} {e : Expr} {x : Str} {ys : List Str} {h : Ev Res}
theorem mt_gidx (T : GIdx X.K X.mg x ys) : MtR X "tuple.index" (rGidx X.K X.mg x ys) := by
  intro pins s σ H v xs u us Q I r rz ⟨a, k, ev, hm, ex, hk, q⟩
  subst ev ex
  cases r
  obtain ⟨t, rfl⟩ : ∃ t, us = [.str k t] := by
    cases rz with
    | cons r1 rn =>
      cases rn
      obtain ⟨t, rfl⟩ := r1
      exact ⟨t, rfl⟩
  obtain ⟨b, o, its, n, hb, lk, hc, hd, hs, st⟩ := T
  rw [hm] at hb; cases hb
  refine PySem.SeqAt.tuple_index_strs (ys := ys) (vs := its.toList) ?_ st hk ⟨.int (ys.idxOf k : Nat), H, I.tok _, ⟨_, rfl⟩, q⟩
  rw [Array.toArray_toList]
  exact ⟨o, I.kIn _ _ lk, hc, n, hs⟩
theorem bel_gix (hh : Bel h) : Bel (eGix ys h) := (bel_evD hh).bind fun d => by
  cases d with
  | str k =>
    dsimp only
    split
    · exact .pure
    · exact .fail'
  | _ => exact .fail'
theorem se_gidx (T : GIdx X.K X.mg x ys) (hg : Gl X x) (he : SE X G Wx e h) (hdb : (x == ("__debug__" : Str)) = false := by decide)
    (hbase : attributeBase (.Name x p) "index" X.env (eval (.Name x p) X.env) = eval (.Name x p) X.env := by rfl)
    (hfew : ((backTo cpos (starEach [e] X.env)).all (fun x => !x.1) && (backToKw cpos (keywordEach [] X.env)).all (fun x => x.1.isSome)
      && decide (([e] : List Expr).length + ([] : List Keyword).length + (if ([] : List Keyword).isEmpty then 0 else 1) < 30)) = true := by rfl)
    (hline : (apos.endLine == cpos.line) = true := by rfl) (hs : starEach [e] X.env = (false, eval e X.env) :: starEach [] X.env := by rfl) (hplain : (backTo cpos (starEach [] X.env)).any (·.1) = false := by rfl) :
    SE X G Wx (.Call (.Attribute (.Name x p) "index" apos) [e] [] cpos) (eGix ys h) :=
  let T0 := T
  let ⟨a, o, its, n, hm, lk, hc, hd, _, _⟩ := T
  ⟨PE_imp (pe_bm PySem.F.plainAttrs_tuple PySem.F.slot_tuple_index PySem.F.type_tuple_index (mt_gidx T0) (pe_glob (v := .ref a) hg hm rfl hdb) (pa_cons he.pe pa_nil hs) hbase hfew hline hs hplain) fun σ H Q ⟨R, F, L, st, ok, q⟩ => by
    refine ⟨.inr (.inl ⟨rfl, o, lk, hc, hd⟩), ?_⟩
    refine tE_D ok (OutP.bind (f := evD h) q fun d st1 F1 L1 H1 x1 ok1 o1 v rv => ?_)
    cases d with
    | str k =>
      cases rv
      dsimp only at o1
      split at o1
      · exact ⟨a, k, rfl, hm, rfl, by assumption, o1 F1 L1 H1 (.refl _ _) ok1 _ (.int _)⟩
      · exact o1.elim
    | _ => exact o1.elim, bel_gix he.bel⟩
end
/-! ### isinstance(e, (A, B, ..)), e an own exception in its suite -/
def tgsOf : List D → Option (List Tg)
  | [] => some []
  | d :: r => match tgOf d, tgsOf r with
    | some t, some l => some (t :: l)
    | _, _ => none
theorem tgs_vals {K : PySem.W.Frag} {g : Nat → Addr} {F : Hp} : ∀ {ds : List D} {vs : List V} {us : List Value} {l : List Tg}, Reps K g F ds vs → Vals vs us → tgsOf ds = some l → us = l.map (tgV g)
  | [], _, _, _, .nil, .nil, e => by cases e; rfl
  | d :: r, _, _, l, .cons h1 h2, .cons r1 r2, e => by
    unfold tgsOf at e
    split at e
    · rename_i t l' e1 e2
      cases e
      have i := tgs_vals h2 r2 e2
      subst i
      cases d <;> simp only [tgOf] at e1 <;> cases e1
      · cases h1; rw [show _ = _ from r1]; rfl
      · cases h1; rw [show _ = _ from r1]; rfl
    · cases e
def eIsT (c : Nat) (l : List Tg) (b : Bool) (h h2 : Ev Res) : Ev Res := h.bind fun r => match r with
  | .ex c' _ => if c' = c then (evD h2).bind fun d => match d with
    | .tup ds => if tgsOf ds = some l then Ev.pure (.d (.bl b)) else Ev.fail
    | _ => Ev.fail else Ev.fail
  | _ => Ev.fail
section
variable {X : Cx} {G : Cl} {Wx : WX} {pos p : Pos} {e e2 : Expr} {c : Nat} {l : List Tg} {a dd : Addr} {oe : Obj} {pn : List (Addr × Obj)} {fo f2 : Ev Res} {b : Bool}
theorem bel_isT (hh : Bel fo) (h2 : Bel f2) : Bel (eIsT c l b fo f2) := hh.bind fun r => by
  cases r with
  | ex c' fs =>
    dsimp only
    split
    · refine (bel_evD h2).bind fun d => ?_
      cases d with
      | tup ds =>
        dsimp only
        split
        · exact .pure
        · exact .fail'
      | _ => exact .fail'
    · exact .fail'
  | _ => exact .fail'
theorem se_isT (T : IsE X.K (G.at_ c)) (hk : PySem.W.kitAny X.K (.ref (G.at_ c)) (l.map (tgV G.at_)) = some b) (hz : Zc (.ref (G.at_ c)) (some dd) oe) (hf : ∃ vs, oe.data = .fields vs)
    (he : SE (X.suite a ((a, oe) :: pn)) ⟨G.at_, a, dd⟩ Wx e fo) (h2 : SE (X.suite a ((a, oe) :: pn)) ⟨G.at_, a, dd⟩ Wx e2 f2) (hg : Gl X "isinstance") (hm : X.mg "isinstance" = none)
    (hs1 : starEach [e, e2] X.env = (false, eval e X.env) :: starEach [e2] X.env := by rfl) (hs2 : starEach [e2] X.env = (false, eval e2 X.env) :: starEach [] X.env := by rfl) (hpl : (backTo pos (starEach [e2] X.env)).any (·.1) = false := by rfl) :
    SE (X.suite a ((a, oe) :: pn)) ⟨G.at_, a, dd⟩ Wx (.Call (.Name "isinstance" p) [e, e2] [] pos) (eIsT c l b fo f2) :=
  ⟨PE_imp (pe_callB (X := X.suite a ((a, oe) :: pn)) (r := fun xs H Q => ∃ tp ys fs, xs = [.ref a, .ref tp] ∧ SqT X.K H tp ys ∧ (∀ us, Vals ys us → us = l.map (tgV G.at_)) ∧ H dd = some (.xd fs) ∧ Q (.bl b) H) (fun pins s σ H xs us Q I r ⟨tp, ys, fs, ex, hT, hy, hd, q⟩ => by
      subst ex
      cases r with
      | cons r1 rn => cases rn with
        | cons r2 rn =>
          cases rn
          cases r1
          cases r2
          obtain ⟨hget, _⟩ := I.pin (a, oe) (List.mem_append.mpr (.inl List.mem_cons_self))
          obtain ⟨fv, hv⟩ := hf
          have hx : ObjOk X.prog X.w H s.heap dd (.xd fs) := I.hok dd _ hd
          obtain ⟨mA, hns, hr⟩ := hx
          obtain ⟨od, ho, _⟩ := lookIn_ns hns
          have J : PySem.W.InstAt s.heap a oe (G.at_ c) (some od) := ⟨hget, hz.1, by unfold PySem.W.notCls; rw [hv] <;> rfl, by rw [hz.2]; exact ho⟩
          obtain ⟨its, o, n, rv, h1, h2', h3⟩ := sqT_at I.hok I.kIn hT
          have e3 := hy _ rv
          subst e3
          obtain ⟨oc, od', dt, sl⟩ := o
          simp only at h2' h3
          subst h2' h3
          exact PySem.W.kia_tup (PySem.W.kitx_exc T.cl T.hg T.hk T.hs T.ha T.hn T.ht T.hm) I.kIn J h1 hk (fun z => nomatch z) fun tk => ⟨.bl b, H, I.kept (t' := tk) fun _ _ z => z, rfl, q⟩) hg hm rfl (pa_cons he.pe (pa_cons h2.pe pa_nil hs2) hs1) (by decide) (by decide) hs1 hpl) fun σ H Q ⟨R, F, L, st, ok, o⟩ => by
    refine ⟨R, F, L, st, ok, OutP.bind (f := fo) o fun r st1 F1 L1 H1 x1 ok1 o1 v rv => ?_⟩
    cases r with
    | ex c' fs =>
      obtain ⟨hv, vs, hd, rf⟩ := rv
      dsimp only at o1
      split at o1
      · refine tE_D ok1 (OutP.bind (f := evD f2) o1 fun d st2 F2 L2 H2 x2 ok2 o2 y ry => ?_)
        cases d with
        | tup ds =>
          dsimp only at o2
          split at o2
          · rename_i hl
            cases ry with
            | tup sq rs => exact ⟨_, _, vs, by rw [hv], sub_t (fun a o e => ok2.rel.fh a o e) sq, fun us ru => tgs_vals rs ru hl, ok2.rel.fh _ _ (x2.f _ _ hd), o2 F2 L2 H2 (.refl _ _) ok2 _ (.bl b)⟩
          · exact o2.elim
        | _ => exact o2.elim
      · exact o1.elim
    | _ => exact o1.elim, bel_isT he.bel h2.bel⟩
end
def kitAB (K : PySem.W.Frag) (a : Value) (l : List Value) (r : Bool) : Bool := decide (PySem.W.kitAny K a l = some r)
theorem kitAB_ok {K : PySem.W.Frag} {a : Value} {l : List Value} {r : Bool} (h : kitAB K a l r = true) : PySem.W.kitAny K a l = some r := of_decide_eq_true h
/-! ### a head that tells of defs at any address too -/
noncomputable def fdA (K : PySem.W.Frag) (a : Addr) : FuncData := match K.lookup a with
  | some ⟨_, _, .func fd, _⟩ => fd
  | _ => PySem.W.fnOf "" "" ⟨[], [], none, [], [], none, []⟩ [] ⟨.function, [], false, false, []⟩ .none .none .none .none none .none .none
abbrev Ds (K : PySem.W.Frag) (d : He5.DefA) : Prop := FunD K d.name d.qual d.params d.body d.scope (d.dvs K) (d.kws K) (d.at_ K) (fdA K (d.at_ K))
theorem fdA_eq {K : PySem.W.Frag} {x q : Str} {pa : Arguments} {b : List Stmt} {sc : Scope} {dvs : List V} {kws : List (Str × V)} {a : Addr} {fd : FuncData} (F : FunD K x q pa b sc dvs kws a fd) : fdA K a = fd := by
  obtain ⟨oc, od, dV, kV, doc, pm, an, cdv, ct, osl, _, lk, _⟩ := F.ex
  unfold fdA
  rw [lk]
theorem ds_of {K : PySem.W.Frag} {fa : List Fa} {fn : List He5.DefA} (c : He5.SaysA fa fn K) (i : Nat) {d : He5.DefA} (h : fn[i]? = some d := by rfl) : Ds K d := by
  obtain ⟨fd, F⟩ := c.def_ i h
  unfold Ds
  rw [fdA_eq F]
  exact F
abbrev AlY : Type := AlD × AlD × Bool
def frY (g : Addr → Option Obj) (n : Nat) : PySem.W.Frag := frT g (He5.asA g n)
def obsY (n : Nat) (fa : List Fa) (fn : List DefD) (sm : List He5.DefA) (ex : PySem.W.Frag → Bool) (g : Addr → Option Obj) : AlY := (obsD fa fn (frY g n), He5.obsA [] sm (frY g n), ex (frY g n))
def hookY (n : Nat) (fa : List Fa) (fn : List DefD) (sm : List He5.DefA) (ex : PySem.W.Frag → Bool) : PySem.W.Hook where
  α := AlY
  obs := fun s => obsY n fa fn sm ex s.heap.get?
  val := fun _ => (valD fn, He5.valA sm, true)
  says := fun _ h => ∃ K : PySem.W.Frag, K.In h ∧ SaysD fa fn K ∧ He5.SaysA [] sm K ∧ ex K = true
  of := fun _ _ e => ⟨_, frT_in, congrArg (fun z : AlY => z.1) e, congrArg (fun z : AlY => z.2.1) e, congrArg (fun z : AlY => z.2.2) e⟩
  keeps := fun _ _ _ ⟨K, hK, c⟩ k => ⟨K, PySem.W.Frag.In.keeps hK k, c⟩
theorem obsY_eq {n : Nat} {fa : List Fa} {fn : List DefD} {sm : List He5.DefA} {ex : PySem.W.Frag → Bool} {g : Addr → Option Obj} {s : Shared} (h : ∀ a, g a = s.heap.get? a) : obsY n fa fn sm ex g = (hookY n fa fn sm ex).obs s := by
  have e : g = s.heap.get? := funext h
  rw [e] <;> rfl
/-! ### plain reasoning -/
section
variable {Q : Res → S → Prop} {st : S} {fo f2 h : Ev Res} {c : Nat} {l : List Tg} {b : Bool} {ys : List Str}
@[simp] theorem wp_gix : Wp (eGix ys h st) Q ↔ Wp (evD h st) fun d s => ∃ k, d = .str k ∧ k ∈ ys ∧ Q (.d (.int (ys.idxOf k : Nat))) s := by
  unfold eGix
  rw [wp_bind]
  constructor <;> intro hh <;> refine hh.mono fun d s z => ?_
  · cases d with
    | str k =>
      dsimp only at z
      split at z
      · exact ⟨k, rfl, by assumption, by simpa using z⟩
      · simp [Ev.fail, Wp] at z
    | _ => simp [Ev.fail, Wp] at z
  · obtain ⟨k, rfl, hk, z⟩ := z
    dsimp only
    rw [if_pos hk]
    simpa using z
@[simp] theorem wp_isT : Wp (eIsT c l b fo f2 st) Q ↔ Wp (fo st) fun r s => ∃ fs, r = .ex c fs ∧ Wp (evD f2 s) fun d s2 => ∃ ds, d = .tup ds ∧ tgsOf ds = some l ∧ Q (.d (.bl b)) s2 := by
  unfold eIsT
  rw [wp_bind]
  constructor <;> intro hh <;> refine hh.mono fun r s z => ?_
  · cases r with
    | ex c' fs =>
      dsimp only at z
      split at z
      · rename_i hc
        subst hc
        rw [wp_bind] at z
        refine ⟨fs, rfl, z.mono fun d s2 z2 => ?_⟩
        cases d with
        | tup ds =>
          dsimp only at z2
          split at z2
          · exact ⟨ds, rfl, by assumption, by simpa using z2⟩
          · simp [Ev.fail, Wp] at z2
        | _ => simp [Ev.fail, Wp] at z2
      · simp [Ev.fail, Wp] at z
    | _ => simp [Ev.fail, Wp] at z
  · obtain ⟨fs, rfl, z⟩ := z
    dsimp only
    rw [if_pos rfl, wp_bind]
    refine z.mono fun d s2 z2 => ?_
    obtain ⟨ds, rfl, hl, z2⟩ := z2
    dsimp only
    rw [if_pos hl]
    simpa using z2
end
end Pm

set_option maxHeartbeats 2000000
set_option exponentiation.threshold 3000
/-! Q52: how long the text of plain data is -/
namespace Pm
open PySem PyProof.Rows L2 He
/-! ### how long it looks -/
def shOk (n k : Nat) (d : D) : Prop := okD k d = true ∧ (toPy d).showable = true ∧ (toPy d).shown.length ≤ n
theorem shOk_str {w : Str} {n k : Nat} (h : PyData.strOk w = true) (hl : 10 * w.length + 2 ≤ n) : shOk n k (.str w) := by
  refine ⟨by simpa [okD] using h, by simp [toPy, PyData.showable], ?_⟩
  simp only [toPy, PyData.shown]
  have := StrLaws.reprText_len w fun c hc => by have := Pm.strOk_iff.mp h c hc; omega
  omega
theorem piled_len {n k : Nat} : ∀ {l : List D}, (∀ x ∈ l, shOk n k x) → piled (PyData.shownAll (toPys l)) ≤ l.length * (n + 2)
  | [], _ => by simp [toPys, PyData.shownAll, piled]
  | x :: l, h => by
    have ih := piled_len (l := l) fun y hy => h y (List.mem_cons_of_mem _ hy)
    have hx := (h x List.mem_cons_self).2.2
    simp only [toPys, PyData.shownAll, piled_cons, List.length_cons, Nat.add_mul, Nat.one_mul]
    omega
theorem showable_all {n k : Nat} : ∀ {l : List D}, (∀ x ∈ l, shOk n k x) → PyData.showableAll (toPys l) = true
  | [], _ => by simp [toPys, PyData.showableAll]
  | x :: l, h => by
    simp only [toPys, PyData.showableAll, (h x List.mem_cons_self).2.1, showable_all (l := l) fun y hy => h y (List.mem_cons_of_mem _ hy), Bool.and_self]
theorem okDs_of {n k : Nat} {l : List D} (h : ∀ x ∈ l, shOk n k x) : okDs k l = true := by
  rw [okDs_all, List.all_eq_true]
  exact fun x hx => (h x hx).1
theorem join_le (ts : List Str) : (Str.join ", " ts).length ≤ piled ts := by
  cases ts with
  | nil => show (0 : Nat) ≤ _; omega
  | cons t r => have := join_length_add (t :: r) (by simp); omega
theorem tupleText_le (ts : List Str) : (tupleText ts).length ≤ piled ts + 3 := by
  unfold tupleText
  rw [strLen_append, strLen_append]
  have := join_le ts
  have e1 : ((("(" : String) : Str)).length = 1 := rfl
  have e2 : ((if ts.length == 1 then ",)" else ")" : String) : Str).length ≤ 2 := by split <;> decide
  omega
theorem textFrom_le : ∀ (ts : List Str) (k : Nat) (acc : Str), (textFrom k acc ts).length ≤ acc.length + piled ts
  | [], _, acc => by show acc.length ≤ _; omega
  | t :: r, k, acc => by
    have ih := textFrom_le r (k + 1) (acc ++ (if k > 0 then ", " else "" : String) ++ t)
    have e : (acc ++ (if k > 0 then ", " else "" : String) ++ t).length ≤ acc.length + 2 + t.length := by
      rw [strLen_append, strLen_append]
      have : ((if k > 0 then ", " else "" : String) : Str).length ≤ 2 := by split <;> decide
      omega
    show (textFrom (k + 1) _ r).length ≤ _
    rw [piled_cons]
    omega
theorem shOk_tup {n k m : Nat} {l : List D} (h : ∀ x ∈ l, shOk n k x) (hm : l.length * (n + 2) + 3 ≤ m) : shOk m (k + 1) (.tup l) := by
  have e3 := piled_len h
  have e4 := tupleText_le (PyData.shownAll (toPys l))
  refine ⟨by simpa [okD] using okDs_of h, by simpa [toPy, PyData.showable] using showable_all h, ?_⟩
  simp only [toPy, PyData.shown]
  omega
theorem shOk_lst {n k m : Nat} {l : List D} (h : ∀ x ∈ l, shOk n k x) (hm : l.length * (n + 2) + 3 ≤ m) : shOk m (k + 1) (.lst l) := by
  have e3 := piled_len h
  have e4 := textFrom_le (PyData.shownAll (toPys l)) 0 "["
  refine ⟨by simpa [okD] using okDs_of h, by simpa [toPy, PyData.showable] using showable_all h, ?_⟩
  simp only [toPy, PyData.shown, listText, strLen_append]
  have e1 : ((("[" : String) : Str)).length = 1 := rfl
  have e2 : ((("]" : String) : Str)).length = 1 := rfl
  omega
theorem okSh_of {n : Nat} {d : D} (h : shOk n 60 d) (hn : n ≤ 1000000) : okSh d = true := by
  have big := big
  obtain ⟨h1, h2, h3⟩ := h
  unfold okSh
  rw [Bool.and_eq_true, Bool.and_eq_true, decide_eq_true_eq]
  exact ⟨h1, h2, by omega⟩
theorem shOk_bl {b : Bool} {n k : Nat} (h : 5 ≤ n) : shOk n k (.bl b) := by
  refine ⟨by cases k <;> rfl, rfl, ?_⟩
  have e : (toPy (.bl b)).shown.length ≤ 5 := by cases b <;> decide +kernel
  omega
theorem shOk_non {n k : Nat} (h : 4 ≤ n) : shOk n k .non := by
  refine ⟨by cases k <;> rfl, rfl, ?_⟩
  have e : (toPy .non).shown.length ≤ 4 := by decide +kernel
  omega
theorem shOk_int {i : Int} {n k : Nat} (h0 : -(10 ^ 18 : Int) < i) (h1 : i < 10 ^ 18) (h : 19 ≤ n) : shOk n k (.int i) := by
  refine ⟨by cases k <;> rfl, ?_, ?_⟩
  · have := log2_small (i := i) (by omega)
    simp only [toPy, PyData.showable, decide_eq_true_eq]
    omega
  · have e : (toPy (.int i)).shown = Str.ofString (toString i) := rfl
    rw [e]
    by_cases hi : 0 ≤ i
    · have := toString_length_le hi (k := 18) (by decide) h1
      omega
    · have a := len_text_negI (n := i) (by omega)
      have := toString_length_le (v := 0 - i) (by omega) (k := 18) (by decide) (by omega)
      omega
theorem shOk.le {n m k : Nat} {d : D} (h : shOk n k d) (q : n ≤ m) : shOk m k d := ⟨h.1, h.2.1, Nat.le_trans h.2.2 q⟩
theorem repr_of {n : Nat} {d : D} (h : shOk n 60 d) (hn : n ≤ 1000000) (pl : plainD d = true) : dReprA d = some (.d (.str (shD d))) := by
  unfold dReprA; rw [pl, okSh_of h hn]; rfl
theorem repr_same {n : Nat} {d : D} (h : shOk n 60 d) (hn : n ≤ 1000000) {neg : Bool} : opEq neg (.str (shD d)) (.str (shD d)) = some (!neg) := by
  have so := okSh_strOk (okSh_of h hn)
  rw [opEq_strs so so]; simp
end Pm

set_option maxHeartbeats 2000000
/-! Q53: defs with *args; class constants; is not True -/
namespace Pm
open PySem PyProof.Rows L2 He
section
variable {P : Program} {w : World} {K : PySem.W.Frag} {mg : Str → Option Value} {base : Heap}
/-- a body's derivation gives what the def does -/
theorem fn_body {z : Bool} {qual : Str} {st : Stmt} {f : Addr} {N ps : List Str} {k : Nat} {g : Nat → Addr} {fb : Ev Fl} (Sc : FnScope N ps (defScope st)) (hbody : Hb z P w K mg base qual st f N k g fb)
    (cdv : Value) (A : Around) (outer : List Env) (s : Shared) (H : Hp) (vs : List V) (Q : VK) (E : XK) (hr : Room k (A.deeper (envOfC qual (defScope st) s.heap.objs.size f cdv))) (hz : z = true → (A.deeper (envOfC qual (defScope st) s.heap.objs.size f cdv)).guards = some [])
    (h : spF K g ps.length (fnOf N.length fb) vs H Q E) : ∃ t, PSs (cxOf (L2.CX P w) P w K mg base N qual (defScope st) f cdv A outer s H E) (defBody st) t ∧ t { nx := fun _ H' => Q .non H', rt := Q } (L2.start N vs) H := by
  obtain ⟨hl, R, F0, L, M, ws, rel, r, o⟩ := h
  have hpl : ps.length ≤ N.length := by have := congrArg List.length Sc.pre; rw [List.length_take] at this; omega
  have ok := start_ok (N := N) rel r (by omega)
  have hbd := hbody cdv A outer s H E (fun cls d _ H' => E cls d H') hr hz (takes_of rfl rfl rfl rfl) (passes_of rfl)
  have hbel0 := hbd.bel
  refine ⟨_, hbd.pss, R, F0, L, _, ok, ?_⟩
  unfold fnOf at o
  have il := rel.il
  cases e : fb ⟨ws.map .w ++ List.replicate (N.length - ws.length) .no, M, M.length⟩ with
  | none => rw [e] at o; exact o.elim
  | some p =>
    obtain ⟨out, st1⟩ := p
    rw [e] at o
    dsimp only at o
    · have cutR : ∀ {F' L' σ' H'}, Ext F0 F' L L' → Ok K ⟨g, 0, 0⟩ R F' L' st1 σ' H' → Rel K g R F' L (st1.M.take M.length) H' := fun {F' L' σ' H'} x1 ok1 => by
        have le : Le _ st1 := hbel0 _ _ _ (Nat.le_refl _) e
        rw [← il]
        refine ok1.rel.cut x1.l (fun i c hi h => ?_) ?_
        · obtain ⟨c0, e0, q0⟩ := le.2.2 i c (by rw [← il]; exact hi) h
          obtain ⟨a, ha, rc⟩ := rel.ce i c0 e0
          exact q0 _ rc.below
        · have := le.2.1; simp only at this; omega
      cases out with
      | exc x => exact fun σ' F' L' H' dd vs x1 ok1 hd rf => o F' L H' dd vs ⟨x1.f, List.prefix_rfl⟩ (cutR x1 ok1) hd rf
      | ok fl =>
        cases fl with
        | nx => exact fun σ' F' L' H' x1 ok1 => o .non F' L H' ⟨x1.f, List.prefix_rfl⟩ (cutR x1 ok1) .non
        | brk => exact o.elim
        | ct => exact o.elim
        | ret r =>
          dsimp only at o
          cases er : retR M.length st1.M r with
          | none => rw [er] at o; exact o.elim
          | some r' =>
            rw [er] at o
            intro σ' F' L' H' x1 ok1 v rr
            refine o v F' L H' ⟨x1.f, List.prefix_rfl⟩ (cutR x1 ok1) ?_
            have fresh : ∀ {c : Cell} {a : Addr}, c.belowB M.length = true → RepC K g R F' L' H' a c → (∀ (i : Nat) (c' : Cell), i < M.length → st1.M[i]? = some (some c') → L'[i]? ≠ some a) → v = .ref a → RepR0 K g R F' L (st1.M.take M.length) H' (.new c) v := fun {c a} hb rc n ev => by
              refine ⟨a, ev, rc.cut x1.l (by rw [il]; exact Cell.bel_of hb), fun i c' e' z => ?_⟩
              have hi : i < M.length := by have := (List.getElem?_eq_some_iff.mp e').1; simp at this; omega
              rw [List.getElem?_take_of_lt hi] at e'
              exact n i c' hi e' (x1.get z)
            cases r with
            | d x => cases er; exact rr
            | loc i =>
              obtain ⟨a, ha, q⟩ := rr
              simp only [retR] at er
              split at er
              · rename_i hi
                cases er
                obtain ⟨t, rfl⟩ := x1.l
                rw [List.getElem?_append_left (by omega)] at ha
                exact ⟨a, ha, q⟩
              · rename_i hi
                split at er
                · rename_i c hc
                  split at er
                  · rename_i hb
                    cases er
                    obtain ⟨a', ha', rc⟩ := ok1.rel.ce i c hc
                    rw [ha] at ha'; cases ha'
                    refine fresh hb rc (fun j c' hj ej z => ?_) q
                    have := ok1.rel.nd j i c' c a ej hc z ha
                    omega
                  · cases er
                · cases er
            | new c =>
              obtain ⟨a, q, rc, n⟩ := rr
              simp only [retR] at er
              split at er
              · rename_i hb
                cases er
                exact fresh hb rc (fun i c' _ e z => n i c' e z) q
              · cases er
            | ex c fs => cases er
end
/-- a def and what it does, however its parameters are bound -/
structure FnS (z : Bool) (P : Program) (w : World) (K : PySem.W.Frag) (mg : Str → Option Value) (base : Heap) (g : Nat → Addr) (k : Nat) (f : Addr) (fd : FuncData) (ps : List Str) (fs : Fn) : Prop where
  go : ∀ (A : Around) (os : List Env) (s : Shared) (H : Hp) (as : Args) (Q : VK) (E : XK) (Gd : List V → Hp → Prop), Room k A → (z = true → A.guards = some []) → Env0 P w K mg base A os s H → StX.Bnd (L2.CX P w) P w K mg base fd as ps A os s H E Gd →
    (∀ vs H2, Gd vs H2 → spF K g ps.length fs vs H2 Q E) → codeAny (model P w) A (.call (.ref f) as) (CR (L2.CX P w) os P w H s Q E) s
  fb : FnB fs
theorem FnS.mono {z : Bool} {P : Program} {w : World} {K : PySem.W.Frag} {mg : Str → Option Value} {base : Heap} {g : Nat → Addr} {k j : Nat} {f : Addr} {fd : FuncData} {ps : List Str} {fs : Fn} (F : FnS z P w K mg base g j f fd ps fs) (h : j ≤ k) : FnS z P w K mg base g k f fd ps fs :=
  ⟨fun A os s H as Q E Gd r => F.go A os s H as Q E Gd (r.mono h), F.fb⟩
theorem fns_of {z : Bool} {P : Program} {w : World} {K : PySem.W.Frag} {mg : Str → Option Value} {base : Heap} {x qual : Str} {st : Stmt} {f : Addr} {fd : FuncData} {N ps : List Str} {k : Nat} {g : Nat → Addr} {fb : Ev Fl} {dvs : List V} {kws : List (Str × V)}
    (F : FunD K x qual (defArgs st) (defBody st) (defScope st) dvs kws f fd) (Sc : FnScope N ps (defScope st)) (h : Hb z P w K mg base qual st f N k g fb) (hk : k ≤ 40 := by decide) : FnS z P w K mg base g (k + 1) f fd ps (fnOf N.length fb) := by
  refine ⟨fun A os s H as Q E Gd hr hz e0 hb hG => ?_, ?_⟩
  · obtain ⟨oc, od, dV, kV, doc, pm, an, cdv, ct, osl, rfl, lk, hcd, _, _⟩ := F.ex
    exact StX.run_bnd lk hcd Sc hr e0 hb fun s2 H2 vs hg hr2 => fn_body Sc h cdv A os s2 H2 vs Q E hr2 hz (hG vs H2 hg)
  · have rm : Room k (callerA.deeper (envOfC qual (defScope st) ({} : Shared).heap.objs.size f .none)) := Room.mono (Room.deeper (k := 40) ⟨rfl, by decide, by decide⟩ _) hk
    exact fnB_of (h .none callerA [] ({} : Shared) (fun _ => none) (fun _ _ _ => False) (fun cls d _ H' => False) rm (fun _ => by rfl) (takes_of rfl rfl rfl rfl) (passes_of rfl)).bel
/-! ### def f(a, .., *v): how a call binds -/
/-- m positional arguments, the first n to the parameters, the others to the tuple; ms: the keyword-only ones' defaults -/
structure BdS (K : PySem.W.Frag) (g : Nat → Addr) (fd : FuncData) (ps : List Str) (n m : Nat) (ks : List Str) (dw : List W) : Prop where
  ex : ∃ (mv : List Value) (ms : List V), Vals ms mv ∧ (∀ F L, RepWs K g F L dw ms) ∧ ∀ (M : Model) (A : Around) (Q : List (Str × Value) → Shared → Prop) (E : Value → Shared → Prop) (s : Shared) (us ws : List Value), K.In s.heap → us.length = m → ws.length = ks.length →
    wpAny M A (newTuple (us.drop n)) (fun t s2 => Q (ps.zip (us.take n ++ ((mv ++ ws) ++ [t]))) s2) E s → wpAny M A (bindArgs fd ⟨us, ks.zip ws⟩) Q E s
theorem bst_of {K : PySem.W.Frag} {g : Nat → Addr} {x qual : Str} {params : Arguments} {body : List Stmt} {scope : Scope} {f : Addr} {fd : FuncData} {ps ks : List Str} {n m : Nat} (F : FunD K x qual params body scope [] [] f fd)
    (h : ∀ (kV doc pm : Value) (an : Option Addr) (cdv ct : Value) (us ws : List Value), us.length = m → ws.length = ks.length → bindArgs (PySem.W.fnOf x qual params body scope .none kV doc pm an cdv ct) ⟨us, ks.zip ws⟩ = (newTuple (us.drop n) >>= fun t => pure (ps.zip (us.take n ++ (ws ++ [t]))))) : BdS K g fd ps n m ks [] := by
  obtain ⟨oc, od, dV, kV, doc, pm, an, cdv, ct, osl, rfl, lk, hcd, hD, hK⟩ := F.ex
  rcases hD with ⟨_, rfl⟩ | ⟨e, _⟩
  · refine ⟨[], [], .nil, fun _ _ => .nil, fun M A Q E s us ws X l1 l2 hq => ?_⟩
    rw [h kV doc pm an cdv ct us ws l1 l2]
    exact wpAny_bind (wpAny_mono hq (fun t s2 z => wpAny_pure z) fun _ _ z => z)
  · exact absurd rfl e
/-! ### such a call -/
def dataL : List W → Option (List D)
  | [] => some []
  | .d d :: r => (dataL r).map (d :: ·)
  | .loc _ :: _ => none
theorem dataL_reps {K : PySem.W.Frag} {g : Nat → Addr} {F : Hp} {L : List Addr} : ∀ {ws : List W} {vs : List V} {ds : List D}, dataL ws = some ds → RepWs K g F L ws vs → Reps K g F ds vs
  | [], _, _, e, .nil => by cases e; exact .nil
  | .d d :: r, _, ds, e, .cons h1 h2 => by
    obtain ⟨ds', e2, rfl⟩ := Option.map_eq_some_iff.mp (show (dataL r).map (d :: ·) = some ds from e)
    exact .cons h1 (dataL_reps e2 h2)
  | .loc _ :: _, _, _, e, _ => by cases e
section
variable {X : Cx} {G : Cl} {Wx : WX} {k : Nat} {f : Addr} {fd : FuncData} {ps ks : List Str} {n m : Nat} {dw : List W} {fs : Fn}
def starF (fs : Fn) (n : Nat) (dw ws us : List W) : List (Option Cell) → Option (Out Res × List (Option Cell)) := fun M => match dataL (ws.drop n) with
  | some ds => fs (ws.take n ++ ((dw ++ us) ++ [.d (.tup ds)])) M
  | none => none
def finS (K : PySem.W.Frag) (G : Cl) (Wx : WX) (fs : Fn) (n m j : Nat) (dw : List W) : TF := fun vs zs σ H Q => (vs.length = m ∧ zs.length = j) ∧ (n ≤ m ∧ m ≤ sizeLine) ∧ ∃ R F L M ws us, Rel K G.at_ R F L M H ∧ RepWs K G.at_ F L ws vs ∧ RepWs K G.at_ F L us zs ∧
  OutF K G.at_ R F L Q (WE Wx σ) (starF fs n dw ws us M)
theorem outF_ext {K : PySem.W.Frag} {g : Nat → Addr} {R F F1 : Hp} {L L1 : List Addr} {Q : VK} {E : XK} {o : Option (Out Res × List (Option Cell))} (h : OutF K g R F L Q E o) (x : Ext F F1 L L1) : OutF K g R F1 L1 Q E o := by
  cases o with
  | none => exact h
  | some p =>
    obtain ⟨r, M⟩ := p
    cases r with
    | exc e => exact fun F' L' H' dd vs x' rel hd rf => h F' L' H' dd vs (x.trans x') rel hd rf
    | ok r => exact fun v F' L' H' x' rel rr => h v F' L' H' (x.trans x') rel rr
theorem vals_take : ∀ {n : Nat} {vs : List V} {us : List Value}, Vals vs us → Vals (vs.take n) (us.take n) ∧ Vals (vs.drop n) (us.drop n)
  | 0, _, _, h => ⟨.nil, h⟩
  | n + 1, _, _, .nil => ⟨.nil, .nil⟩
  | n + 1, _, _, .cons a h => ⟨.cons a (vals_take (n := n) h).1, (vals_take (n := n) h).2⟩
theorem cv_star {z : Bool} (F : FnS z X.prog X.w X.K X.mg X.base G.at_ k f fd ps fs) (hr : Room k X.A) (hz : z = true → X.A.guards = some []) (tk : Takes X Wx) (b : BdS X.K G.at_ fd ps n m ks dw) (hl : ps.length = n + (dw.length + ks.length) + 1 := by rfl) :
    CallV X (.ref f) ks (finS X.K G Wx fs n m ks.length dw) := by
  intro pins s σ H us ws vs zs Q I r rz ⟨⟨l1, l2⟩, ⟨l3, l4⟩, R, F0, L, M, xs, ys, rel, rx, ry, o⟩
  obtain ⟨mv, ms, rm, hd, hb⟩ := b.ex
  have e0 := I.env0
  have lu : us.length = m := by rw [← r.length]; exact l1
  have lw : ws.length = ks.length := by rw [← rz.length]; exact l2
  have hn : H s.heap.objs.size = Option.none := e0.hok.fresh (Nat.le_refl _)
  have lm : ms.length = dw.length := ((hd F0 L).length).symm
  refine wpAny_call (codeAny_mono (F.go X.A X.stack s H ⟨us, ks.zip ws⟩ Q (WE Wx σ) (fun xs' H2 => ∃ p, H p = Option.none ∧ xs' = vs.take n ++ ((ms ++ zs) ++ [V.ref p]) ∧ H2 = upd H p (.tup (vs.drop n))) hr hz e0 (fun A' Ex Q' h => ?_) (fun xs' H2 hg => ?_)) fun r s' hq => ?_)
  · refine hb _ _ _ _ _ us ws I.kIn lu lw ?_
    have r2 := (vals_take (n := n) r).2
    have hz2 : (us.drop n).length ≤ sizeLine := by rw [List.length_drop]; omega
    refine wpAny_newTuple ?_ hz2
    have new : ObjOk X.prog X.w (upd H s.heap.objs.size (.tup (vs.drop n))) (s.heap.push ({ cls := .type "tuple", data := .seq (us.drop n).toArray } : Obj)) s.heap.objs.size (.tup (vs.drop n)) := ⟨by rw [List.length_drop]; omega, us.drop n, r2, ⟨_, Heap.get?_push_size _ rfl, rfl, _, rfl⟩⟩
    have un := StX.un_laid (fs := frs X.stack) (s := s) (o := ({ cls := .type "tuple", data := .seq (us.drop n).toArray } : Obj)) (u := .tup (vs.drop n)) hn
    refine h _ _ (vs.take n ++ ((ms ++ zs) ++ [V.ref s.heap.objs.size])) _ (StX.env0_laid e0 new) un rfl (fun e s' => StX.cxUp X.stack s H _ _ (WE Wx σ) e s' un (fun b o q => Heap.get?_push_of_some _ q) rfl) ((vals_take (n := n) r).1.append ((rm.append rz).append (.cons rfl .nil))) ?_ ⟨_, hn, rfl, rfl⟩
    simp only [List.length_append, List.length_take, List.length_cons, List.length_nil]
    omega
  · obtain ⟨p, hp, rfl, rfl⟩ := hg
    unfold starF at o
    cases ed : dataL (xs.drop n) with
    | none => rw [ed] at o; exact o.elim
    | some ds =>
      rw [ed] at o
      dsimp only at o
      have rd : Reps X.K G.at_ F0 ds (vs.drop n) := dataL_reps ed (rx.drop n)
      obtain ⟨s1, rel1, rt⟩ := rel.newTup hp rd
      have x1 : Ext F0 (upd F0 p (.tup (vs.drop n))) L L := ⟨s1, List.prefix_rfl⟩
      refine ⟨?_, R, upd F0 p (.tup (vs.drop n)), L, M, _, rel1, ((rx.take n).ext x1).append ((((hd _ L).append (ry.ext x1))).append (.cons (show RepW X.K G.at_ _ L (.d (.tup ds)) _ from rt) .nil)), ?_⟩
      · simp only [List.length_append, List.length_take, List.length_cons, List.length_nil]
        omega
      · exact outF_ext o x1
  · cases r with
    | error e => exact passAt tk σ pins H s e s' I hq
    | ok fl =>
      cases fl with
      | ret u => exact I.after hq
      | next => exact False.elim hq
      | brk => exact False.elim hq
      | cont => exact False.elim hq
def eCallS (fs : Fn) (n : Nat) (dw : List W) (m j : Nat) (fa fk : Ev (List W)) : Ev Res := fa.bind fun ws => fk.bind fun us => if (ws.length = m ∧ us.length = j) ∧ n ≤ m ∧ m ≤ sizeLine then (match dataL (ws.drop n) with
  | some ds => eCallF fs (ws.take n ++ ((dw ++ us) ++ [.d (.tup ds)]))
  | none => Ev.fail) else Ev.fail
theorem bel_callS {fa fk : Ev (List W)} {j : Nat} (fb : FnB fs) (ba : Bel fa) (bk : Bel fk) : Bel (eCallS fs n dw m j fa fk) := ba.bind fun ws => bk.bind fun us => by
  by_cases h : (ws.length = m ∧ us.length = j) ∧ n ≤ m ∧ m ≤ sizeLine
  · rw [if_pos h]
    cases ed : dataL (ws.drop n) with
    | none => exact .fail'
    | some ds => exact bel_callF fb _
  · rw [if_neg h]; exact .fail'
variable {x : Str} {p pos apos : Pos} {e : Expr} {es : List Expr} {kws : List Keyword} {fa fk : Ev (List W)}
theorem argsS_of {R F0 : Hp} {L : List Addr} {st : S} {σ : L2.St} {H : Hp} {Q : VK} {j : Nat} (ok : Ok X.K G R F0 L st σ H) (o : OutE X.K G Wx R F0 L σ Q (eCallS fs n dw m j fa fk st)) :
    tArgs (tA X.K G Wx fa) (tA X.K G Wx fk) (finS X.K G Wx fs n m j dw) σ H Q := by
  refine ⟨R, F0, L, st, ok, OutP.bind (f := fa) o fun ws st1 F1 L1 H1 x1 ok1 o1 vs rv => ?_⟩
  refine ⟨R, F1, L1, st1, ok1, OutP.bind (f := fk) o1 fun us st2 F2 L2 H2 x2 ok2 o2 zs rz => ?_⟩
  by_cases h : (ws.length = m ∧ us.length = j) ∧ n ≤ m ∧ m ≤ sizeLine
  · rw [if_pos h] at o2
    cases ed : dataL (ws.drop n) with
    | none => rw [ed] at o2; exact o2.elim
    | some ds =>
      rw [ed] at o2
      refine ⟨⟨rv.length.symm.trans h.1.1, rz.length.symm.trans h.1.2⟩, h.2, R, F2, L2, st2.M, ws, us, ok2.rel, rv.ext x2, rz, ?_⟩
      unfold starF
      rw [ed]
      exact call_out ok2 o2 fun r st3 F3 L3 H3 v x3 ok3 q rr => q v rr
  · rw [if_neg h] at o2; exact o2.elim
theorem se_callS (fb : FnB fs) (c : CallV X (.ref f) ks (finS X.K G Wx fs n m ks.length dw)) (hm : X.mg x = some (.ref f)) (hk : PySem.W.keepIn X.K (.ref f) = true) (ha : SA X G Wx (e :: es) fa) (hkw : SK X G Wx kws fk) (hg : Gl X x := by rfl)
    (hall : (backToKw pos (keywordEach kws X.env)).all (·.1.isSome) = true := by rfl) (hks : (backToKw pos (keywordEach kws X.env)).filterMap (·.1) = ks := by rfl) (hdb : (x == ("__debug__" : Str)) = false := by decide)
    (he : starEach (e :: es) X.env = (false, eval e X.env) :: starEach es X.env := by rfl) (hpl : ((backTo pos (starEach (e :: es) X.env)).any (·.1) || (backToKw pos (keywordEach kws X.env)).any (·.1.isNone)) = false := by rfl) :
    SE X G Wx (.Call (.Name x p) (e :: es) kws pos) (eCallS fs n dw m ks.length fa fk) :=
  ⟨PE_imp (pv_call c hg hm hk ha.pa hkw.pk hall hks hdb he hpl) fun σ H Q ⟨R, F, L, st, ok, o⟩ => argsS_of ok o, bel_callS fb ha.bel hkw.bel⟩
end
/-! ### x is not True -/
def opIsB (neg : Bool) (a b : D) : Option Bool := match a, b with
  | .bl a, .bl b => some (xor neg (a == b))
  | _, _ => none
theorem or_isnotB {X : Cx} {G : Cl} : OpR X (compareOp .IsNot) (rE X.K G (opIsB true)) := by
  intro pins s σ H x y v u Q I rx ry ⟨R, F, L, M, a, b, r, rel, ra, rb, e, q⟩
  unfold opIsB at e
  split at e
  · cases e
    cases rb with
    | rep rb => cases rb; cases ra with
      | rep ra => cases ra; exact op_notBl pins s σ H _ _ v u Q I rx ry ⟨_, _, rfl, rfl, by simpa [Bool.beq_eq_decide_eq] using q⟩
  · cases e
/-! ### C.f, a text of the class -/
structure CStr (K : PySem.W.Frag) (C : Addr) (f s : Str) : Prop where
  rd : ClX.CRead K C (.type "type")
  val : ∃ t, ClX.CVal K C (.type "type") f (.str s) (.str s t)
def cstrB (K : PySem.W.Frag) (C : Addr) (f s : Str) : Bool := PySem.W.readsIn K C (.type "type") && (eqO (PySem.W.specialIn K (.ref C) "__getattribute__") (some (some (.builtin "type.__getattribute__"))) && (match PySem.W.findCls K (.ref C) (.type "type") f with
  | some (.val (.str y _)) => decide (y = s)
  | _ => false))
theorem cstrB_ok {K : PySem.W.Frag} {C : Addr} {f s : Str} (h : cstrB K C f s = true) : CStr K C f s := by
  obtain ⟨h1, h⟩ := ba h
  obtain ⟨h2, h3⟩ := ba h
  refine ⟨⟨h1, eqO_ok h2⟩, ?_⟩
  split at h3
  · rename_i y t e
    cases of_decide_eq_true h3
    exact ⟨t, e, ⟨t, rfl⟩⟩
  · cases h3
theorem se_cstr {X : Cx} {G : Cl} {Wx : WX} {o : Expr} {c : Nat} {f s : Str} {pos : Pos} (T : CStr X.K (G.at_ c) f s) (ho : SE X G Wx o (eC (.cls c))) (hb : attributeBase o f X.env (eval o X.env) = eval o X.env := by rfl) : SE X G Wx (.Attribute o f pos) (eC (.str s)) :=
  ⟨PE_imp (ClX.pe_cval ho.pe hb) fun σ H Q ⟨R, F, L, st, ok, q⟩ => by
    refine ⟨R, F, L, st, ok, fun F1 L1 H1 x1 ok1 v rv => ?_⟩
    cases rv
    obtain ⟨t, hv⟩ := T.val
    exact ⟨_, _, _, _, rfl, T.rd, hv, q F1 L1 H1 x1 ok1 _ (.str s)⟩, .pure⟩
/-! ### plain reasoning -/
section
variable {Q : Res → S → Prop} {E : Exc → S → Prop} {st : S} {fa fk : Ev (List W)} {fs : Fn} {n m j : Nat} {dw : List W}
theorem wp_callS' : Wp (eCallS fs n dw m j fa fk st) Q ↔ Wp (fa st) fun ws s => Wp (fk s) fun us s' => ((ws.length = m ∧ us.length = j) ∧ n ≤ m ∧ m ≤ sizeLine) ∧ ∃ ds, dataL (ws.drop n) = some ds ∧ Fw (fs (ws.take n ++ ((dw ++ us) ++ [.d (.tup ds)])) s'.M) fun r M' => Q r ⟨s'.sl, M', s'.b⟩ := by
  unfold eCallS; rw [wp_bind]
  constructor <;> intro hh <;> refine hh.mono fun ws s z => ?_
  · rw [wp_bind] at z
    refine z.mono fun us s' z => ?_
    by_cases h : (ws.length = m ∧ us.length = j) ∧ n ≤ m ∧ m ≤ sizeLine
    · rw [if_pos h] at z
      cases ed : dataL (ws.drop n) with
      | none => rw [ed] at z; exact z.elim
      | some ds => rw [ed] at z; exact ⟨h, ds, rfl, wp_callF.mp z⟩
    · rw [if_neg h] at z; exact z.elim
  · rw [wp_bind]
    refine z.mono fun us s' z => ?_
    obtain ⟨h, ds, ed, z⟩ := z
    rw [if_pos h, ed]; exact wp_callF.mpr z
@[simp] theorem wp_callS : Wp (eCallS fs n dw m j fa fk st) Q ↔ Wp (fa st) fun ws s => Wp (fk s) fun us s' => ((ws.length = m ∧ us.length = j) ∧ n ≤ m ∧ m ≤ sizeLine) ∧ ∃ ds, dataL (ws.drop n) = some ds ∧ Fw (fs (ws.take n ++ ((dw ++ us) ++ [.d (.tup ds)])) s'.M) fun r M' => Q r ⟨s'.sl, M', s'.b⟩ := wp_callS'
theorem wxc_callS (h : Wp (fa st) fun ws s => Wp (fk s) fun us s' => ((ws.length = m ∧ us.length = j) ∧ n ≤ m ∧ m ≤ sizeLine) ∧ ∃ ds, dataL (ws.drop n) = some ds ∧ Fxc (fs (ws.take n ++ ((dw ++ us) ++ [.d (.tup ds)])) s'.M) fun x M' => E x ⟨s'.sl, M', s'.b⟩) : Wxc (eCallS fs n dw m j fa fk st) E := by
  unfold eCallS
  refine wxc_r (h.mono fun ws s z => wxc_r (z.mono fun us s' z => ?_))
  obtain ⟨h, ds, ed, z⟩ := z
  rw [if_pos h, ed]
  exact wxc_callF.mpr z
@[simp] theorem dataL_nil : dataL [] = some [] := rfl
@[simp] theorem dataL_cons {d : D} {r : List W} : dataL (.d d :: r) = (dataL r).map (d :: ·) := rfl
@[simp] theorem opIsB_bl {neg a b : Bool} : opIsB neg (.bl a) (.bl b) = some (xor neg (a == b)) := rfl
end
end Pm

set_option maxHeartbeats 4000000
namespace L_k06
open PySem PyProof.Rows L2 He Pm
def top (i : Nat) : Stmt := PySem.Challenge.pw_pathmodes_k06_ways_judged.main.body.getD i (.Pass ⟨0, 0, 0, 0⟩)
abbrev s__law_take : Stmt := top 26
abbrev s__law_name : Stmt := top 28
abbrev s__law_names : Stmt := top 29
abbrev s__law_each : Stmt := top 31
abbrev s__law_of : Stmt := top 27
abbrev s__law_edges : Stmt := top 30
abbrev s_is_node : Stmt := top 19
abbrev s_is_label : Stmt := top 18
abbrev s_is_edge : Stmt := top 20
abbrev s_check_edges : Stmt := top 21
abbrev s_ends_of : Stmt := top 22
abbrev s_Graph_QinitQ : Stmt := inClass (top 23) 0
abbrev s__law_drawn : Stmt := top 33
abbrev s_word_of : Stmt := top 12
abbrev s__law_bent : Stmt := top 34
abbrev s_BadManner_QinitQ : Stmt := inClass (top 6) 0
abbrev s_Manner_rank : Stmt := inClass (top 10) 3
abbrev s_NoNode_QinitQ : Stmt := inClass (top 7) 0
abbrev s_check_nodes : Stmt := top 11
abbrev s_Graph_QcontainsQ : Stmt := inClass (top 23) 9
abbrev s_is_way : Stmt := top 13
abbrev s__law_fits : Stmt := top 35
abbrev s__law_refused : Stmt := top 36
abbrev s__law_is_right : Stmt := top 37
abbrev s__law_bag : Stmt := top 25
abbrev s_law : Stmt := top 38
def gc (K : PySem.W.Frag) : Nat → Addr
  | 0 => ga K "PathmodesError"
  | 1 => ga K "BadLabel"
  | 2 => ga K "BadNode"
  | 3 => ga K "BadEdge"
  | 4 => ga K "BadManner"
  | 5 => ga K "NoNode"
  | 6 => ga K "Manner"
  | 7 => ga K "Graph"
  | _ => 0
def d__law_take : DefD := ⟨("_law_take", none), "_law_take", "_law_take", defArgs s__law_take, defBody s__law_take, defScope s__law_take, [], []⟩
def d__law_name : DefD := ⟨("_law_name", none), "_law_name", "_law_name", defArgs s__law_name, defBody s__law_name, defScope s__law_name, [], []⟩
def d__law_names : DefD := ⟨("_law_names", none), "_law_names", "_law_names", defArgs s__law_names, defBody s__law_names, defScope s__law_names, [], []⟩
def d__law_each : DefD := ⟨("_law_each", none), "_law_each", "_law_each", defArgs s__law_each, defBody s__law_each, defScope s__law_each, [], []⟩
def d__law_of : DefD := ⟨("_law_of", none), "_law_of", "_law_of", defArgs s__law_of, defBody s__law_of, defScope s__law_of, [], []⟩
def d__law_edges : DefD := ⟨("_law_edges", none), "_law_edges", "_law_edges", defArgs s__law_edges, defBody s__law_edges, defScope s__law_edges, [], []⟩
def d_is_node : DefD := ⟨("is_node", none), "is_node", "is_node", defArgs s_is_node, defBody s_is_node, defScope s_is_node, [], []⟩
def d_is_label : DefD := ⟨("is_label", none), "is_label", "is_label", defArgs s_is_label, defBody s_is_label, defScope s_is_label, [], []⟩
def d_is_edge : DefD := ⟨("is_edge", none), "is_edge", "is_edge", defArgs s_is_edge, defBody s_is_edge, defScope s_is_edge, [], []⟩
def d_check_edges : DefD := ⟨("check_edges", none), "check_edges", "check_edges", defArgs s_check_edges, defBody s_check_edges, defScope s_check_edges, [], []⟩
def d_ends_of : DefD := ⟨("ends_of", none), "ends_of", "ends_of", defArgs s_ends_of, defBody s_ends_of, defScope s_ends_of, [], []⟩
def d_Graph_QinitQ : DefD := ⟨("Graph", some "__init__"), "__init__", "Graph.__init__", defArgs s_Graph_QinitQ, defBody s_Graph_QinitQ, defScope s_Graph_QinitQ, [], []⟩
def d__law_drawn : DefD := ⟨("_law_drawn", none), "_law_drawn", "_law_drawn", defArgs s__law_drawn, defBody s__law_drawn, defScope s__law_drawn, [], []⟩
def d_word_of : DefD := ⟨("word_of", none), "word_of", "word_of", defArgs s_word_of, defBody s_word_of, defScope s_word_of, [], []⟩
def d__law_bent : DefD := ⟨("_law_bent", none), "_law_bent", "_law_bent", defArgs s__law_bent, defBody s__law_bent, defScope s__law_bent, [], []⟩
def d_BadManner_QinitQ : DefD := ⟨("BadManner", some "__init__"), "__init__", "BadManner.__init__", defArgs s_BadManner_QinitQ, defBody s_BadManner_QinitQ, defScope s_BadManner_QinitQ, [], []⟩
def d_Manner_rank : He5.DefA := ⟨fun K => He5.wf K (ga K "Manner") "staticmethod" "rank", "rank", "Manner.rank", defArgs s_Manner_rank, defBody s_Manner_rank, defScope s_Manner_rank, [], []⟩
def d_NoNode_QinitQ : DefD := ⟨("NoNode", some "__init__"), "__init__", "NoNode.__init__", defArgs s_NoNode_QinitQ, defBody s_NoNode_QinitQ, defScope s_NoNode_QinitQ, [], []⟩
def d_check_nodes : DefD := ⟨("check_nodes", none), "check_nodes", "check_nodes", defArgs s_check_nodes, defBody s_check_nodes, defScope s_check_nodes, [], []⟩
def d_Graph_QcontainsQ : DefD := ⟨("Graph", some "__contains__"), "__contains__", "Graph.__contains__", defArgs s_Graph_QcontainsQ, defBody s_Graph_QcontainsQ, defScope s_Graph_QcontainsQ, [], []⟩
def d_is_way : DefD := ⟨("is_way", none), "is_way", "is_way", defArgs s_is_way, defBody s_is_way, defScope s_is_way, [], [("manner", .str "walk")]⟩
def d__law_fits : DefD := ⟨("_law_fits", none), "_law_fits", "_law_fits", defArgs s__law_fits, defBody s__law_fits, defScope s__law_fits, [], []⟩
def d__law_refused : DefD := ⟨("_law_refused", none), "_law_refused", "_law_refused", defArgs s__law_refused, defBody s__law_refused, defScope s__law_refused, [], []⟩
def d__law_is_right : DefD := ⟨("_law_is_right", none), "_law_is_right", "_law_is_right", defArgs s__law_is_right, defBody s__law_is_right, defScope s__law_is_right, [], []⟩
def d__law_bag : DefD := ⟨("_law_bag", none), "_law_bag", "_law_bag", defArgs s__law_bag, defBody s__law_bag, defScope s__law_bag, [], []⟩
def d_law : DefD := ⟨("law", none), "law", "law", defArgs s_law, defBody s_law, defScope s_law, [], []⟩
def fnL : List DefD := [d__law_take, d__law_name, d__law_names, d__law_each, d__law_of, d__law_edges, d_is_node, d_is_label, d_is_edge, d_check_edges, d_ends_of, d_Graph_QinitQ, d__law_drawn, d_word_of, d__law_bent, d_BadManner_QinitQ, d_NoNode_QinitQ, d_check_nodes, d_Graph_QcontainsQ, d_is_way, d__law_fits, d__law_refused, d__law_is_right, d__law_bag, d_law]
def smL : List He5.DefA := [d_Manner_rank]
def isiTab : List (Tg × Tg × Bool) := []
def faL : List Fa := [.free "len", .free "min", .free "max", .free "range", .free "int", .glo "_law_take", .glo "_law_name", .free "sorted", .glo "_law_names", .glo "_law_of", .glo "_law_edges", .glo "_law_each", .free "enumerate", .free "tuple", .free "isinstance", .free "str", .int "LONGEST" 8, .str "LETTERS" "abcdefghijklmnopqrstuvwxyz", .str "DIGITS" "0123456789", .free "all", .glo "is_node", .glo "is_label", .glo "is_edge", .glo "check_edges", .free "set", .cls "Graph", .noat "Graph" "triples", .glo "ends_of", .noat "Graph" "points", .mkr "Graph", .glo "Graph", .glo "_law_drawn", .glo "word_of", .free "list", .glo "_law_bent", .glo "BadManner", .glo "Manner", .glo "NoNode", .glo "check_nodes", .glo "is_way", .glo "_law_fits", .glo "_law_refused", .free "repr", .free "abs", .glo "_law_bag", .glo "_law_is_right", .glo "law"]
def exL (K : PySem.W.Frag) : Bool := isiB K (gc K) isiTab && (gtB K "MANNERS" [.str "walk", .str "trail", .str "path"] && (xcB K (ga K "BadManner") "manner" (fAd K ("BadManner", some "__init__")) && (gidxB K "MANNERS" ["walk", "trail", "path"] && (smetB K (ga K "Manner") "rank" && (xcL K (ga K "NoNode") "node" (fAd K ("NoNode", some "__init__")) && (ownB K (ga K "Graph") "__contains__" (ma K (ga K "Graph") "__contains__") && (exmB K (.ref (ga K "BadManner")) (.ref (ga K "BadManner")) true && (exmB K (.ref (ga K "NoNode")) (.ref (ga K "BadManner")) false && (exmB K (.ref (ga K "NoNode")) (.ref (ga K "NoNode")) true && (cstrB K (ga K "Manner") "PATH" "path" && (cstrB K (ga K "Manner") "TRAIL" "trail" && (cstrB K (ga K "Manner") "WALK" "walk" && (true)))))))))))))
/-- what the top has written -/
structure Tx (P : Program) (w : World) (K : PySem.W.Frag) (mg : Str → Option Value) (base : Heap) : Prop where
  d__law_take : Dd K d__law_take
  d__law_name : Dd K d__law_name
  d__law_names : Dd K d__law_names
  d__law_each : Dd K d__law_each
  d__law_of : Dd K d__law_of
  d__law_edges : Dd K d__law_edges
  d_is_node : Dd K d_is_node
  d_is_label : Dd K d_is_label
  d_is_edge : Dd K d_is_edge
  d_check_edges : Dd K d_check_edges
  d_ends_of : Dd K d_ends_of
  d_Graph_QinitQ : Dd K d_Graph_QinitQ
  d__law_drawn : Dd K d__law_drawn
  d_word_of : Dd K d_word_of
  d__law_bent : Dd K d__law_bent
  d_BadManner_QinitQ : Dd K d_BadManner_QinitQ
  d_Manner_rank : Ds K d_Manner_rank
  d_NoNode_QinitQ : Dd K d_NoNode_QinitQ
  d_check_nodes : Dd K d_check_nodes
  d_Graph_QcontainsQ : Dd K d_Graph_QcontainsQ
  d_is_way : Dd K d_is_way
  d__law_fits : Dd K d__law_fits
  d__law_refused : Dd K d__law_refused
  d__law_is_right : Dd K d__law_is_right
  d__law_bag : Dd K d__law_bag
  d_law : Dd K d_law
  n_len : mg "len" = none
  n_min : mg "min" = none
  n_max : mg "max" = none
  n_range : mg "range" = none
  n_int : mg "int" = none
  g__law_take : mg "_law_take" = some (.ref (ga K "_law_take"))
  g__law_name : mg "_law_name" = some (.ref (ga K "_law_name"))
  n_sorted : mg "sorted" = none
  g__law_names : mg "_law_names" = some (.ref (ga K "_law_names"))
  g__law_of : mg "_law_of" = some (.ref (ga K "_law_of"))
  g__law_edges : mg "_law_edges" = some (.ref (ga K "_law_edges"))
  g__law_each : mg "_law_each" = some (.ref (ga K "_law_each"))
  n_enumerate : mg "enumerate" = none
  n_tuple : mg "tuple" = none
  n_isinstance : mg "isinstance" = none
  n_str : mg "str" = none
  c_LONGEST : ∃ t, mg "LONGEST" = some (.int 8 t)
  c_LETTERS : ∃ t, mg "LETTERS" = some (.str "abcdefghijklmnopqrstuvwxyz" t)
  c_DIGITS : ∃ t, mg "DIGITS" = some (.str "0123456789" t)
  n_all : mg "all" = none
  g_is_node : mg "is_node" = some (.ref (ga K "is_node"))
  g_is_label : mg "is_label" = some (.ref (ga K "is_label"))
  g_is_edge : mg "is_edge" = some (.ref (ga K "is_edge"))
  g_check_edges : mg "check_edges" = some (.ref (ga K "check_edges"))
  n_set : mg "set" = none
  k_Graph : Cls K (ga K "Graph")
  a_Graph_triples : NoAttr K (ga K "Graph") "triples"
  g_ends_of : mg "ends_of" = some (.ref (ga K "ends_of"))
  a_Graph_points : NoAttr K (ga K "Graph") "points"
  m_Graph : Mk K (ga K "Graph") (ma K (ga K "Graph") "__init__")
  g_Graph : mg "Graph" = some (.ref (ga K "Graph"))
  g__law_drawn : mg "_law_drawn" = some (.ref (ga K "_law_drawn"))
  g_word_of : mg "word_of" = some (.ref (ga K "word_of"))
  n_list : mg "list" = none
  g__law_bent : mg "_law_bent" = some (.ref (ga K "_law_bent"))
  g_BadManner : mg "BadManner" = some (.ref (ga K "BadManner"))
  g_Manner : mg "Manner" = some (.ref (ga K "Manner"))
  g_NoNode : mg "NoNode" = some (.ref (ga K "NoNode"))
  g_check_nodes : mg "check_nodes" = some (.ref (ga K "check_nodes"))
  g_is_way : mg "is_way" = some (.ref (ga K "is_way"))
  g__law_fits : mg "_law_fits" = some (.ref (ga K "_law_fits"))
  g__law_refused : mg "_law_refused" = some (.ref (ga K "_law_refused"))
  n_repr : mg "repr" = none
  n_abs : mg "abs" = none
  g__law_bag : mg "_law_bag" = some (.ref (ga K "_law_bag"))
  g__law_is_right : mg "_law_is_right" = some (.ref (ga K "_law_is_right"))
  g_law : mg "law" = some (.ref (ga K "law"))
  isi : IsiOk K (gc K) isiTab
  c_MANNERS : GTup K mg "MANNERS" [.str "walk", .str "trail", .str "path"]
  x_BadManner : Xc K (ga K "BadManner") "manner" (fAd K ("BadManner", some "__init__"))
  ix_MANNERS : GIdx K mg "MANNERS" ["walk", "trail", "path"]
  s_Manner_rank : SMet K (ga K "Manner") "rank" (He5.wf K (ga K "Manner") "staticmethod" "rank")
  x_NoNode : XcL K (ga K "NoNode") "node" (fAd K ("NoNode", some "__init__"))
  w_Graph_QcontainsQ : OwnM K (ga K "Graph") "__contains__" (ma K (ga K "Graph") "__contains__")
  xm_BadManner_BadManner : PySem.W.exmOne K (.ref (ga K "BadManner")) (.ref (ga K "BadManner")) = some true
  xm_NoNode_BadManner : PySem.W.exmOne K (.ref (ga K "NoNode")) (.ref (ga K "BadManner")) = some false
  xm_NoNode_NoNode : PySem.W.exmOne K (.ref (ga K "NoNode")) (.ref (ga K "NoNode")) = some true
  v_Manner_PATH : CStr K (ga K "Manner") "PATH" "path"
  v_Manner_TRAIL : CStr K (ga K "Manner") "TRAIL" "trail"
  v_Manner_WALK : CStr K (ga K "Manner") "WALK" "walk"
section
variable {P : Program} {w : World} {K : PySem.W.Frag} {mg : Str → Option Value} {base : Heap}
theorem tx_of {h : Heap} (X : K.In h) (G : h.Ns mainGlobals mg) (c : SaysD faL fnL K) (m : exL K = true) (cs : He5.SaysA [] smL K) : Tx P w K mg base := by
  unfold exL at m
  obtain ⟨m0, m⟩ := ba m
  obtain ⟨m1, m⟩ := ba m
  obtain ⟨m2, m⟩ := ba m
  obtain ⟨m3, m⟩ := ba m
  obtain ⟨m4, m⟩ := ba m
  obtain ⟨m5, m⟩ := ba m
  obtain ⟨m6, m⟩ := ba m
  obtain ⟨m7, m⟩ := ba m
  obtain ⟨m8, m⟩ := ba m
  obtain ⟨m9, m⟩ := ba m
  obtain ⟨m10, m⟩ := ba m
  obtain ⟨m11, m⟩ := ba m
  obtain ⟨m12, m⟩ := ba m
  exact ⟨dd_of c 0, dd_of c 1, dd_of c 2, dd_of c 3, dd_of c 4, dd_of c 5, dd_of c 6, dd_of c 7, dd_of c 8, dd_of c 9, dd_of c 10, dd_of c 11, dd_of c 12, dd_of c 13, dd_of c 14, dd_of c 15, ds_of cs 0, dd_of c 16, dd_of c 17, dd_of c 18, dd_of c 19, dd_of c 20, dd_of c 21, dd_of c 22, dd_of c 23, dd_of c 24, free_ok X G (c.fact 0), free_ok X G (c.fact 1), free_ok X G (c.fact 2), free_ok X G (c.fact 3), free_ok X G (c.fact 4), glo_ok X G (c.fact 5), glo_ok X G (c.fact 6), free_ok X G (c.fact 7), glo_ok X G (c.fact 8), glo_ok X G (c.fact 9), glo_ok X G (c.fact 10), glo_ok X G (c.fact 11), free_ok X G (c.fact 12), free_ok X G (c.fact 13), free_ok X G (c.fact 14), free_ok X G (c.fact 15), int_ok X G (c.fact 16), str_ok X G (c.fact 17), str_ok X G (c.fact 18), free_ok X G (c.fact 19), glo_ok X G (c.fact 20), glo_ok X G (c.fact 21), glo_ok X G (c.fact 22), glo_ok X G (c.fact 23), free_ok X G (c.fact 24), cls_ok (c.fact 25), noat_ok (c.fact 26), glo_ok X G (c.fact 27), noat_ok (c.fact 28), mkr_ok (c.fact 29), glo_ok X G (c.fact 30), glo_ok X G (c.fact 31), glo_ok X G (c.fact 32), free_ok X G (c.fact 33), glo_ok X G (c.fact 34), glo_ok X G (c.fact 35), glo_ok X G (c.fact 36), glo_ok X G (c.fact 37), glo_ok X G (c.fact 38), glo_ok X G (c.fact 39), glo_ok X G (c.fact 40), glo_ok X G (c.fact 41), free_ok X G (c.fact 42), free_ok X G (c.fact 43), glo_ok X G (c.fact 44), glo_ok X G (c.fact 45), glo_ok X G (c.fact 46), isiB_ok m0, gtB_ok X G m1, xcB_ok m2, gidxB_ok X G m3, smetB_ok m4, xcL_ok m5, ownB_ok m6, exmB_ok m7, exmB_ok m8, exmB_ok m9, cstrB_ok m10, cstrB_ok m11, cstrB_ok m12⟩
theorem Tx.f_Graph_triples (T : Tx P w K mg base) : FldOk K (gc K) [7] "triples" := fun c h => by rw [List.mem_singleton.mp h]; exact ⟨T.k_Graph, T.a_Graph_triples⟩
theorem Tx.f_Graph_points (T : Tx P w K mg base) : FldOk K (gc K) [7] "points" := fun c h => by rw [List.mem_singleton.mp h]; exact ⟨T.k_Graph, T.a_Graph_points⟩
abbrev zz : Bool := true
/-! _law_take -/
abbrev N__law_take : List Str := ["bag", "many", "digit", "mixed"]
abbrev p__law_take : List Str := ["bag", "many"]
theorem sc__law_take : FnScope N__law_take p__law_take (defScope s__law_take) := ⟨rfl, rfl, rfl, by decide +kernel, rfl, by decide +kernel, by decide +kernel⟩
def c__law_take : Ev Fl :=
    fSeq (fIf (eOpT opGt (eIx (eVar 0) (eC (.int 0))) (eC (.int 0))) (fSeq (fSet 2 (evW (eOp (opI2 fMod) (eBf (b1 dInt) (eaCons (evW (eIx (eVar 0) (eC (.int 0)))) (eaNil))) (eVar 1))))
    (fSeq (fIx (evW (eVar 0)) (evD (eC (.int 0))) (evW (eOp (opI2 fDiv) (eIx (eVar 0) (eC (.int 0))) (eVar 1))))
    (fRet (eVar 2)))) (fNx))
    (fSeq (fIx (evW (eVar 0)) (evD (eC (.int 2))) (evW (eOp (opAdd) (eIx (eVar 0) (eC (.int 2))) (eC (.int 1)))))
    (fSeq (fSet 3 (evW (eOp (opI2 fMod) (eBf (b1 dInt) (eaCons (evW (eOp (opI2 fPow) (eOp (opAdd) (eIx (eVar 0) (eC (.int 1))) (eOp (opI2 fMul) (eC (.int 7368787)) (eIx (eVar 0) (eC (.int 2))))) (eC (.int 3)))) (eaNil))) (eC (.int 2305843009213693951)))))
    (fSeq (fSet 3 (evW (eOp (opI2 fMod) (eBf (b1 dInt) (eaCons (evW (eOp (opI2 fPow) (eOp (opAdd) (eVar 3) (eOp (opI2 fMul) (eC (.int 15485863)) (eIx (eVar 0) (eC (.int 2))))) (eC (.int 2)))) (eaNil))) (eC (.int 2305843009213693921)))))
    (fRet (eOp (opI2 fMod) (eBf (b1 dInt) (eaCons (evW (eOp (opI2 fDiv) (eVar 3) (eC (.int 4096)))) (eaNil))) (eVar 1))))))
def f__law_take : Fn := fnOf 4 c__law_take
theorem bn__law_take (T : Tx P w K mg base) : Binds K (fdOf K d__law_take.at_) p__law_take [] := T.d__law_take.bindsN fun _ _ _ _ _ _ us hl => match us, hl with | [_, _], _ => rfl
theorem ok__law_take (T : Tx P w K mg base) : FnX zz P w K mg base (gc K) 1 (fAd K d__law_take.at_) (fdOf K d__law_take.at_) p__law_take f__law_take := fnx_of (st := s__law_take) (k := 0) (N := N__law_take) (fb := c__law_take) T.d__law_take sc__law_take fun cdv A outer s H E Wx hr hz tk hp =>
    sb_cons (ss_if (st_cmpE or_gt (se_ix (se_var 0) (se_int)) (se_int)) (sb_cons (ss_set (i := 2) sc__law_take.nd asW (se_op or_mod (se_bty cr_int rfl T.n_int (by decide +kernel) (sa_cons asW (se_ix (se_var 0) (se_int)) (sa_nil))) (se_var 1)))
    (sb_cons (ss_ix asW asW (se_var 0) (se_int) (se_op or_fdiv (se_ix (se_var 0) (se_int)) (se_var 1)))
    (sb_one (ss_ret (se_var 2))))) (sb_nil))
    (sb_cons (ss_ix asW asW (se_var 0) (se_int) (se_op or_add (se_ix (se_var 0) (se_int)) (se_int)))
    (sb_cons (ss_set (i := 3) sc__law_take.nd asW (se_op or_mod (se_bty cr_int rfl T.n_int (by decide +kernel) (sa_cons asW (se_op or_pow (se_op or_add (se_ix (se_var 0) (se_int)) (se_op or_mul (se_int) (se_ix (se_var 0) (se_int)))) (se_int)) (sa_nil))) (se_int)))
    (sb_cons (ss_set (i := 3) sc__law_take.nd asW (se_op or_mod (se_bty cr_int rfl T.n_int (by decide +kernel) (sa_cons asW (se_op or_pow (se_op or_add (se_var 3) (se_op or_mul (se_int) (se_ix (se_var 0) (se_int)))) (se_int)) (sa_nil))) (se_int)))
    (sb_one (ss_ret (se_op or_mod (se_bty cr_int rfl T.n_int (by decide +kernel) (sa_cons asW (se_op or_fdiv (se_var 3) (se_int)) (sa_nil))) (se_var 1)))))))
/-! _law_name -/
abbrev N__law_name : List Str := ["bag", "signs", "size", "found", "turn"]
abbrev p__law_name : List Str := ["bag", "signs"]
theorem sc__law_name : FnScope N__law_name p__law_name (defScope s__law_name) := ⟨rfl, rfl, rfl, by decide +kernel, rfl, by decide +kernel, by decide +kernel⟩
def c__law_name : Ev Fl :=
    fSeq (fSet 2 (evW (eIf (eOpT opGt (eCallK f__law_take (fun ws _ => ws) 2 0 (eaCons (evN (eVar 0)) (eaCons (evW (eC (.int 3))) (eaNil))) (eaNil)) (eC (.int 0))) (eOp (opAdd) (eC (.int 1)) (eCallK f__law_take (fun ws _ => ws) 2 0 (eaCons (evN (eVar 0)) (eaCons (evW (eC (.int 2))) (eaNil))) (eaNil))) (eOp (opAdd) (eC (.int 1)) (eCallK f__law_take (fun ws _ => ws) 2 0 (eaCons (evN (eVar 0)) (eaCons (evW (eC (.int 8))) (eaNil))) (eaNil))))))
    (fSeq (fSet 3 (evW (eC (.str ""))))
    (fSeq (fFor (iRange1 (eaCons (evW (eVar 2)) (eaNil))) (kName 4) (fSet 3 (evW (eOp (opAdd) (eVar 3) (eIx (eVar 1) (eCallK f__law_take (fun ws _ => ws) 2 0 (eaCons (evN (eVar 0)) (eaCons (evW (eBf (bLen) (eaCons (evW (eVar 1)) (eaNil)))) (eaNil))) (eaNil)))))))
    (fRet (eVar 3))))
def f__law_name : Fn := fnOf 5 c__law_name
theorem bn__law_name (T : Tx P w K mg base) : Binds K (fdOf K d__law_name.at_) p__law_name [] := T.d__law_name.bindsN fun _ _ _ _ _ _ us hl => match us, hl with | [_, _], _ => rfl
theorem ok__law_name (T : Tx P w K mg base) : FnX zz P w K mg base (gc K) 2 (fAd K d__law_name.at_) (fdOf K d__law_name.at_) p__law_name f__law_name := fnx_of (st := s__law_name) (k := 1) (N := N__law_name) (fb := c__law_name) T.d__law_name sc__law_name fun cdv A outer s H E Wx hr hz tk hp =>
    sb_cons (ss_set (i := 2) sc__law_name.nd asW (se_ifx (st_cmpE or_gt (se_call (ks := []) (ok__law_take T).fb (cv_fn (ok__law_take T).ok (hr.mono (show 1 ≤ 1 by decide)) hz tk (bd_all (bn__law_take T))) T.g__law_take T.d__law_take.kp (sa_cons asN (se_var 0) (sa_cons asW (se_int) (sa_nil))) (sk_nil)) (se_int)) (se_op or_add (se_int) (se_call (ks := []) (ok__law_take T).fb (cv_fn (ok__law_take T).ok (hr.mono (show 1 ≤ 1 by decide)) hz tk (bd_all (bn__law_take T))) T.g__law_take T.d__law_take.kp (sa_cons asN (se_var 0) (sa_cons asW (se_int) (sa_nil))) (sk_nil))) (se_op or_add (se_int) (se_call (ks := []) (ok__law_take T).fb (cv_fn (ok__law_take T).ok (hr.mono (show 1 ≤ 1 by decide)) hz tk (bd_all (bn__law_take T))) T.g__law_take T.d__law_take.kp (sa_cons asN (se_var 0) (sa_cons asW (se_int) (sa_nil))) (sk_nil)))))
    (sb_cons (ss_set (i := 3) sc__law_name.nd asW (se_str))
    (sb_cons (ss_for hp (si_range1 (sa_cons asW (se_var 2) (sa_nil)) rfl T.n_range) (sg_name 4 sc__law_name.nd) (sb_one (ss_set (i := 3) sc__law_name.nd asW (se_op or_add (se_var 3) (se_ix (se_var 1) (se_call (ks := []) (ok__law_take T).fb (cv_fn (ok__law_take T).ok (hr.mono (show 1 ≤ 1 by decide)) hz tk (bd_all (bn__law_take T))) T.g__law_take T.d__law_take.kp (sa_cons asN (se_var 0) (sa_cons asW (se_bf cr_len rfl T.n_len (by decide +kernel) (sa_cons asW (se_var 1) (sa_nil))) (sa_nil))) (sk_nil)))))))
    (sb_one (ss_ret (se_var 3)))))
/-! _law_names -/
abbrev N__law_names : List Str := ["bag", "signs", "many", "found", "turn", "word"]
abbrev p__law_names : List Str := ["bag", "signs", "many"]
theorem sc__law_names : FnScope N__law_names p__law_names (defScope s__law_names) := ⟨rfl, rfl, rfl, by decide +kernel, rfl, by decide +kernel, by decide +kernel⟩
def c__law_names : Ev Fl :=
    fSeq (fSet 3 (evN (eLst (eaNil))))
    (fSeq (fFor (iRange1 (eaCons (evW (eVar 2)) (eaNil))) (kName 4) (fSeq (fSet 5 (evW (eCallK f__law_name (fun ws _ => ws) 2 0 (eaCons (evN (eVar 0)) (eaCons (evW (eVar 1)) (eaNil))) (eaNil))))
    (fIf (eOpT (opIn true) (eVar 5) (eVar 3)) (fExpr (eLm stAppend (evW (eVar 3)) (eaCons (evW (eVar 5)) (eaNil)))) (fNx))))
    (fRet (eBf (b1 dSort) (eaCons (evW (eVar 3)) (eaNil)))))
def f__law_names : Fn := fnOf 6 c__law_names
theorem bn__law_names (T : Tx P w K mg base) : Binds K (fdOf K d__law_names.at_) p__law_names [] := T.d__law_names.bindsN fun _ _ _ _ _ _ us hl => match us, hl with | [_, _, _], _ => rfl
theorem ok__law_names (T : Tx P w K mg base) : FnX zz P w K mg base (gc K) 3 (fAd K d__law_names.at_) (fdOf K d__law_names.at_) p__law_names f__law_names := fnx_of (st := s__law_names) (k := 2) (N := N__law_names) (fb := c__law_names) T.d__law_names sc__law_names fun cdv A outer s H E Wx hr hz tk hp =>
    sb_cons (ss_set (i := 3) sc__law_names.nd asN (se_lst (sa_nil)))
    (sb_cons (ss_for hp (si_range1 (sa_cons asW (se_var 2) (sa_nil)) rfl T.n_range) (sg_name 4 sc__law_names.nd) (sb_cons (ss_set (i := 5) sc__law_names.nd asW (se_call (ks := []) (ok__law_name T).fb (cv_fn (ok__law_name T).ok (hr.mono (show 2 ≤ 2 by decide)) hz tk (bd_all (bn__law_name T))) T.g__law_name T.d__law_name.kp (sa_cons asN (se_var 0) (sa_cons asW (se_var 1) (sa_nil))) (sk_nil)))
    (sb_one (ss_if (st_cmpE (or_notIn (u65 hr)) (se_var 5) (se_var 3)) (sb_one (ss_expr (se_append asW (se_var 3) (sa_cons asW (se_var 5) (sa_nil))))) (sb_nil)))))
    (sb_one (ss_ret (se_bf (cr_sort (u140 hr)) rfl T.n_sorted (by decide +kernel) (sa_cons asW (se_var 3) (sa_nil))))))
/-! _law_each -/
abbrev N__law_each : List Str := ["some", "found", "one"]
abbrev p__law_each : List Str := ["some"]
theorem sc__law_each : FnScope N__law_each p__law_each (defScope s__law_each) := ⟨rfl, rfl, rfl, by decide +kernel, rfl, by decide +kernel, by decide +kernel⟩
def c__law_each : Ev Fl :=
    fSeq (fSet 1 (evN (eLst (eaNil))))
    (fSeq (fFor (iSrc (eBf (b1 dSort) (eaCons (evW (eVar 0)) (eaNil)))) (kName 2) (fIf (eOrT (eOpT (opEq false) (eVar 1) (eLst (eaNil))) (eOpT (opEq true) (eIx (eVar 1) (eNeg (eC (.int 1)))) (eVar 2))) (fExpr (eLm stAppend (evW (eVar 1)) (eaCons (evW (eVar 2)) (eaNil)))) (fNx)))
    (fRet (eVar 1)))
def f__law_each : Fn := fnOf 3 c__law_each
theorem bn__law_each (T : Tx P w K mg base) : Binds K (fdOf K d__law_each.at_) p__law_each [] := T.d__law_each.bindsN fun _ _ _ _ _ _ us hl => match us, hl with | [_], _ => rfl
theorem ok__law_each (T : Tx P w K mg base) : FnX zz P w K mg base (gc K) 1 (fAd K d__law_each.at_) (fdOf K d__law_each.at_) p__law_each f__law_each := fnx_of (st := s__law_each) (k := 0) (N := N__law_each) (fb := c__law_each) T.d__law_each sc__law_each fun cdv A outer s H E Wx hr hz tk hp =>
    sb_cons (ss_set (i := 1) sc__law_each.nd asN (se_lst (sa_nil)))
    (sb_cons (ss_for hp (si_any (se_bf (cr_sort (u140 hr)) rfl T.n_sorted (by decide +kernel) (sa_cons asW (se_var 0) (sa_nil)))) (sg_name 2 sc__law_each.nd) (sb_one (ss_if (st_bool (sw_or (st_cmpE (or_eq (u64 hr)) (se_var 1) (se_lst (sa_nil))) (sw_or1 (st_cmpE (or_ne (u64 hr)) (se_ix (se_var 1) (se_neg (se_int))) (se_var 2))))) (sb_one (ss_expr (se_append asW (se_var 1) (sa_cons asW (se_var 2) (sa_nil))))) (sb_nil))))
    (sb_one (ss_ret (se_var 1))))
/-! _law_of -/
abbrev N__law_of : List Str := ["bag", "some"]
abbrev p__law_of : List Str := ["bag", "some"]
theorem sc__law_of : FnScope N__law_of p__law_of (defScope s__law_of) := ⟨rfl, rfl, rfl, by decide +kernel, rfl, by decide +kernel, by decide +kernel⟩
def c__law_of : Ev Fl :=
    fRet (eIx (eVar 1) (eCallK f__law_take (fun ws _ => ws) 2 0 (eaCons (evN (eVar 0)) (eaCons (evW (eBf (bLen) (eaCons (evW (eVar 1)) (eaNil)))) (eaNil))) (eaNil)))
def f__law_of : Fn := fnOf 2 c__law_of
theorem bn__law_of (T : Tx P w K mg base) : Binds K (fdOf K d__law_of.at_) p__law_of [] := T.d__law_of.bindsN fun _ _ _ _ _ _ us hl => match us, hl with | [_, _], _ => rfl
theorem ok__law_of (T : Tx P w K mg base) : FnX zz P w K mg base (gc K) 2 (fAd K d__law_of.at_) (fdOf K d__law_of.at_) p__law_of f__law_of := fnx_of (st := s__law_of) (k := 1) (N := N__law_of) (fb := c__law_of) T.d__law_of sc__law_of fun cdv A outer s H E Wx hr hz tk hp =>
    sb_one (ss_ret (se_ix (se_var 1) (se_call (ks := []) (ok__law_take T).fb (cv_fn (ok__law_take T).ok (hr.mono (show 1 ≤ 1 by decide)) hz tk (bd_all (bn__law_take T))) T.g__law_take T.d__law_take.kp (sa_cons asN (se_var 0) (sa_cons asW (se_bf cr_len rfl T.n_len (by decide +kernel) (sa_cons asW (se_var 1) (sa_nil))) (sa_nil))) (sk_nil))))
/-! _law_edges -/
abbrev N__law_edges : List Str := ["bag", "nodes", "labels", "many", "found", "turn", "source", "target"]
abbrev p__law_edges : List Str := ["bag", "nodes", "labels", "many"]
theorem sc__law_edges : FnScope N__law_edges p__law_edges (defScope s__law_edges) := ⟨rfl, rfl, rfl, by decide +kernel, rfl, by decide +kernel, by decide +kernel⟩
def c__law_edges : Ev Fl :=
    fSeq (fSet 4 (evN (eLst (eaNil))))
    (fSeq (fFor (iRange1 (eaCons (evW (eVar 3)) (eaNil))) (kName 5) (fIf (eAndT (eOpT (opEq true) (eVar 4) (eLst (eaNil))) (eOpT (opEq false) (eCallK f__law_take (fun ws _ => ws) 2 0 (eaCons (evN (eVar 0)) (eaCons (evW (eC (.int 6))) (eaNil))) (eaNil)) (eC (.int 0)))) (fExpr (eLm stAppend (evW (eVar 4)) (eaCons (evW (eCallK f__law_of (fun ws _ => ws) 2 0 (eaCons (evN (eVar 0)) (eaCons (evW (eVar 4)) (eaNil))) (eaNil))) (eaNil)))) (fSeq (fSet 6 (evW (eCallK f__law_of (fun ws _ => ws) 2 0 (eaCons (evN (eVar 0)) (eaCons (evW (eVar 1)) (eaNil))) (eaNil))))
    (fSeq (fSet 7 (evW (eIf (eOpT (opEq false) (eCallK f__law_take (fun ws _ => ws) 2 0 (eaCons (evN (eVar 0)) (eaCons (evW (eC (.int 5))) (eaNil))) (eaNil)) (eC (.int 0))) (eVar 6) (eCallK f__law_of (fun ws _ => ws) 2 0 (eaCons (evN (eVar 0)) (eaCons (evW (eVar 1)) (eaNil))) (eaNil)))))
    (fExpr (eLm stAppend (evW (eVar 4)) (eaCons (evW (eTup (eaCons (evC (eVar 6)) (eaCons (evC (eCallK f__law_of (fun ws _ => ws) 2 0 (eaCons (evN (eVar 0)) (eaCons (evW (eVar 2)) (eaNil))) (eaNil))) (eaCons (evC (eVar 7)) (eaNil)))))) (eaNil))))))))
    (fRet (eVar 4)))
def f__law_edges : Fn := fnOf 8 c__law_edges
theorem bn__law_edges (T : Tx P w K mg base) : Binds K (fdOf K d__law_edges.at_) p__law_edges [] := T.d__law_edges.bindsN fun _ _ _ _ _ _ us hl => match us, hl with | [_, _, _, _], _ => rfl
theorem ok__law_edges (T : Tx P w K mg base) : FnX zz P w K mg base (gc K) 3 (fAd K d__law_edges.at_) (fdOf K d__law_edges.at_) p__law_edges f__law_edges := fnx_of (st := s__law_edges) (k := 2) (N := N__law_edges) (fb := c__law_edges) T.d__law_edges sc__law_edges fun cdv A outer s H E Wx hr hz tk hp =>
    sb_cons (ss_set (i := 4) sc__law_edges.nd asN (se_lst (sa_nil)))
    (sb_cons (ss_for hp (si_range1 (sa_cons asW (se_var 3) (sa_nil)) rfl T.n_range) (sg_name 5 sc__law_edges.nd) (sb_one (ss_if (st_bool (sw_and (st_cmpE (or_ne (u64 hr)) (se_var 4) (se_lst (sa_nil))) (sw_and1 (st_cmpE (or_eq (u64 hr)) (se_call (ks := []) (ok__law_take T).fb (cv_fn (ok__law_take T).ok (hr.mono (show 1 ≤ 2 by decide)) hz tk (bd_all (bn__law_take T))) T.g__law_take T.d__law_take.kp (sa_cons asN (se_var 0) (sa_cons asW (se_int) (sa_nil))) (sk_nil)) (se_int))))) (sb_one (ss_expr (se_append asW (se_var 4) (sa_cons asW (se_call (ks := []) (ok__law_of T).fb (cv_fn (ok__law_of T).ok (hr.mono (show 2 ≤ 2 by decide)) hz tk (bd_all (bn__law_of T))) T.g__law_of T.d__law_of.kp (sa_cons asN (se_var 0) (sa_cons asW (se_var 4) (sa_nil))) (sk_nil)) (sa_nil))))) (sb_cons (ss_set (i := 6) sc__law_edges.nd asW (se_call (ks := []) (ok__law_of T).fb (cv_fn (ok__law_of T).ok (hr.mono (show 2 ≤ 2 by decide)) hz tk (bd_all (bn__law_of T))) T.g__law_of T.d__law_of.kp (sa_cons asN (se_var 0) (sa_cons asW (se_var 1) (sa_nil))) (sk_nil)))
    (sb_cons (ss_set (i := 7) sc__law_edges.nd asW (se_ifx (st_cmpE (or_eq (u64 hr)) (se_call (ks := []) (ok__law_take T).fb (cv_fn (ok__law_take T).ok (hr.mono (show 1 ≤ 2 by decide)) hz tk (bd_all (bn__law_take T))) T.g__law_take T.d__law_take.kp (sa_cons asN (se_var 0) (sa_cons asW (se_int) (sa_nil))) (sk_nil)) (se_int)) (se_var 6) (se_call (ks := []) (ok__law_of T).fb (cv_fn (ok__law_of T).ok (hr.mono (show 2 ≤ 2 by decide)) hz tk (bd_all (bn__law_of T))) T.g__law_of T.d__law_of.kp (sa_cons asN (se_var 0) (sa_cons asW (se_var 1) (sa_nil))) (sk_nil))))
    (sb_one (ss_expr (se_append asW (se_var 4) (sa_cons asW (se_tup (sa_cons asC (se_var 6) (sa_cons asC (se_call (ks := []) (ok__law_of T).fb (cv_fn (ok__law_of T).ok (hr.mono (show 2 ≤ 2 by decide)) hz tk (bd_all (bn__law_of T))) T.g__law_of T.d__law_of.kp (sa_cons asN (se_var 0) (sa_cons asW (se_var 2) (sa_nil))) (sk_nil)) (sa_cons asC (se_var 7) (sa_nil))))) (sa_nil))))))))))
    (sb_one (ss_ret (se_var 4))))
/-! is_node -/
abbrev N_is_node : List Str := ["thing", "sign"]
abbrev p_is_node : List Str := ["thing"]
theorem sc_is_node : FnScope N_is_node p_is_node (defScope s_is_node) := ⟨rfl, rfl, rfl, by decide +kernel, rfl, by decide +kernel, by decide +kernel⟩
def c_is_node : Ev Fl :=
    fRet (eAndV (eBf (bIsi isiTab) (eaCons (evW (eVar 0)) (eaCons (evW (eC (.ty "str"))) eaNil))) (eAndV (eChain (resB opLt) (resB opLe) (eC (.int 0)) (eBf (bLen) (eaCons (evW (eVar 0)) (eaNil))) (eC (.int 8))) (eBf (b1 dAll) (eaCons (evW (eComp (iSrc (eVar 0)) (kName 1) [1] (fYes) (evW (eOpE (opIn false) (eVar 1) (eOp (opAdd) (eC (.str "abcdefghijklmnopqrstuvwxyz")) (eC (.str "0123456789"))))))) (eaNil)))))
def f_is_node : Fn := fnOf 2 c_is_node
theorem bn_is_node (T : Tx P w K mg base) : Binds K (fdOf K d_is_node.at_) p_is_node [] := T.d_is_node.bindsN fun _ _ _ _ _ _ us hl => match us, hl with | [_], _ => rfl
theorem ok_is_node (T : Tx P w K mg base) : FnX zz P w K mg base (gc K) 1 (fAd K d_is_node.at_) (fdOf K d_is_node.at_) p_is_node f_is_node := fnx_of (st := s_is_node) (k := 0) (N := N_is_node) (fb := c_is_node) T.d_is_node sc_is_node fun cdv A outer s H E Wx hr hz tk hp =>
    sb_one (ss_ret (se_and (se_bf (cr_isi T.isi) rfl T.n_isinstance (by decide +kernel) (sa_cons asW (se_var 0) (sa_cons asW (se_ty rfl T.n_str (by decide +kernel)) sa_nil))) (se_and (se_chain (or_flat or_lt) (or_flat or_le) (se_int) (se_bf cr_len rfl T.n_len (by decide +kernel) (sa_cons asW (se_var 0) (sa_nil))) (se_glob (v := .int 8) rfl T.c_LONGEST.choose_spec ⟨_, rfl⟩ (fun _ => .int _))) (se_one (se_bf (cr_all' rfl) rfl T.n_all (by decide +kernel) (sa_cons asW (se_comp (own := [("sign", 1)]) rfl sc_is_node.nd (si_any (se_var 0)) (blkOk_by (N := N_is_node) (sc := defScope s_is_node) (by decide +kernel)) (fun s H C cl fp => sg_name 1 sc_is_node.nd) (by decide) (fun s H C cl fp => sts_nil) asW (fun s H C cl fp => se_cmpE (or_in (u65 hr)) (se_var 1) (se_op or_add (se_glob (v := .str "abcdefghijklmnopqrstuvwxyz") rfl T.c_LETTERS.choose_spec ⟨_, rfl⟩ (fun _ => .str _)) (se_glob (v := .str "0123456789") rfl T.c_DIGITS.choose_spec ⟨_, rfl⟩ (fun _ => .str _))))) (sa_nil)))))))
/-! is_label -/
abbrev N_is_label : List Str := ["thing", "sign"]
abbrev p_is_label : List Str := ["thing"]
theorem sc_is_label : FnScope N_is_label p_is_label (defScope s_is_label) := ⟨rfl, rfl, rfl, by decide +kernel, rfl, by decide +kernel, by decide +kernel⟩
def c_is_label : Ev Fl :=
    fRet (eAndV (eBf (bIsi isiTab) (eaCons (evW (eVar 0)) (eaCons (evW (eC (.ty "str"))) eaNil))) (eAndV (eChain (resB opLt) (resB opLe) (eC (.int 0)) (eBf (bLen) (eaCons (evW (eVar 0)) (eaNil))) (eC (.int 8))) (eBf (b1 dAll) (eaCons (evW (eComp (iSrc (eVar 0)) (kName 1) [1] (fYes) (evW (eOpE (opIn false) (eVar 1) (eC (.str "abcdefghijklmnopqrstuvwxyz")))))) (eaNil)))))
def f_is_label : Fn := fnOf 2 c_is_label
theorem bn_is_label (T : Tx P w K mg base) : Binds K (fdOf K d_is_label.at_) p_is_label [] := T.d_is_label.bindsN fun _ _ _ _ _ _ us hl => match us, hl with | [_], _ => rfl
theorem ok_is_label (T : Tx P w K mg base) : FnX zz P w K mg base (gc K) 1 (fAd K d_is_label.at_) (fdOf K d_is_label.at_) p_is_label f_is_label := fnx_of (st := s_is_label) (k := 0) (N := N_is_label) (fb := c_is_label) T.d_is_label sc_is_label fun cdv A outer s H E Wx hr hz tk hp =>
    sb_one (ss_ret (se_and (se_bf (cr_isi T.isi) rfl T.n_isinstance (by decide +kernel) (sa_cons asW (se_var 0) (sa_cons asW (se_ty rfl T.n_str (by decide +kernel)) sa_nil))) (se_and (se_chain (or_flat or_lt) (or_flat or_le) (se_int) (se_bf cr_len rfl T.n_len (by decide +kernel) (sa_cons asW (se_var 0) (sa_nil))) (se_glob (v := .int 8) rfl T.c_LONGEST.choose_spec ⟨_, rfl⟩ (fun _ => .int _))) (se_one (se_bf (cr_all' rfl) rfl T.n_all (by decide +kernel) (sa_cons asW (se_comp (own := [("sign", 1)]) rfl sc_is_label.nd (si_any (se_var 0)) (blkOk_by (N := N_is_label) (sc := defScope s_is_label) (by decide +kernel)) (fun s H C cl fp => sg_name 1 sc_is_label.nd) (by decide) (fun s H C cl fp => sts_nil) asW (fun s H C cl fp => se_cmpE (or_in (u65 hr)) (se_var 1) (se_glob (v := .str "abcdefghijklmnopqrstuvwxyz") rfl T.c_LETTERS.choose_spec ⟨_, rfl⟩ (fun _ => .str _)))) (sa_nil)))))))
/-! is_edge -/
abbrev N_is_edge : List Str := ["thing"]
abbrev p_is_edge : List Str := ["thing"]
theorem sc_is_edge : FnScope N_is_edge p_is_edge (defScope s_is_edge) := ⟨rfl, rfl, rfl, by decide +kernel, rfl, by decide +kernel, by decide +kernel⟩
def c_is_edge : Ev Fl :=
    fSeq (fIf (eOrT (eNotT (eTru (eBf (bIsi isiTab) (eaCons (evW (eVar 0)) (eaCons (evW (eC (.ty "tuple"))) eaNil))))) (eOpT (opEq true) (eBf (bLen) (eaCons (evW (eVar 0)) (eaNil))) (eC (.int 3)))) (fRet (eC (.bl false))) (fNx))
    (fRet (eAndV (eCallK f_is_node (fun ws _ => ws) 1 0 (eaCons (evW (eIx (eVar 0) (eC (.int 0)))) (eaNil)) (eaNil)) (eAndV (eCallK f_is_label (fun ws _ => ws) 1 0 (eaCons (evW (eIx (eVar 0) (eC (.int 1)))) (eaNil)) (eaNil)) (eCallK f_is_node (fun ws _ => ws) 1 0 (eaCons (evW (eIx (eVar 0) (eC (.int 2)))) (eaNil)) (eaNil)))))
def f_is_edge : Fn := fnOf 1 c_is_edge
theorem bn_is_edge (T : Tx P w K mg base) : Binds K (fdOf K d_is_edge.at_) p_is_edge [] := T.d_is_edge.bindsN fun _ _ _ _ _ _ us hl => match us, hl with | [_], _ => rfl
theorem ok_is_edge (T : Tx P w K mg base) : FnX zz P w K mg base (gc K) 2 (fAd K d_is_edge.at_) (fdOf K d_is_edge.at_) p_is_edge f_is_edge := fnx_of (st := s_is_edge) (k := 1) (N := N_is_edge) (fb := c_is_edge) T.d_is_edge sc_is_edge fun cdv A outer s H E Wx hr hz tk hp =>
    sb_cons (ss_if (st_bool (sw_or (st_not (st_tru (se_bf (cr_isi T.isi) rfl T.n_isinstance (by decide +kernel) (sa_cons asW (se_var 0) (sa_cons asW (se_ty rfl T.n_tuple (by decide +kernel)) sa_nil))))) (sw_or1 (st_cmpE (or_ne (u64 hr)) (se_bf cr_len rfl T.n_len (by decide +kernel) (sa_cons asW (se_var 0) (sa_nil))) (se_int))))) (sb_one (ss_ret (se_bl))) (sb_nil))
    (sb_one (ss_ret (se_and (se_call (ks := []) (ok_is_node T).fb (cv_fn (ok_is_node T).ok (hr.mono (show 1 ≤ 1 by decide)) hz tk (bd_all (bn_is_node T))) T.g_is_node T.d_is_node.kp (sa_cons asW (se_ix (se_var 0) (se_int)) (sa_nil)) (sk_nil)) (se_and (se_call (ks := []) (ok_is_label T).fb (cv_fn (ok_is_label T).ok (hr.mono (show 1 ≤ 1 by decide)) hz tk (bd_all (bn_is_label T))) T.g_is_label T.d_is_label.kp (sa_cons asW (se_ix (se_var 0) (se_int)) (sa_nil)) (sk_nil)) (se_one (se_call (ks := []) (ok_is_node T).fb (cv_fn (ok_is_node T).ok (hr.mono (show 1 ≤ 1 by decide)) hz tk (bd_all (bn_is_node T))) T.g_is_node T.d_is_node.kp (sa_cons asW (se_ix (se_var 0) (se_int)) (sa_nil)) (sk_nil)))))))
/-! check_edges -/
abbrev N_check_edges : List Str := ["edges", "at", "edge"]
abbrev p_check_edges : List Str := ["edges"]
theorem sc_check_edges : FnScope N_check_edges p_check_edges (defScope s_check_edges) := ⟨rfl, rfl, rfl, by decide +kernel, rfl, by decide +kernel, by decide +kernel⟩
def c_check_edges : Ev Fl :=
    fFor (iEnumL (eVar 0)) (kTup (kCons (kName 1) (kCons (kName 2) (kNil)))) (fIf (eNotT (eTru (eCallK f_is_edge (fun ws _ => ws) 1 0 (eaCons (evW (eVar 2)) (eaNil)) (eaNil)))) (Ev.fail) (fNx))
def f_check_edges : Fn := fnOf 3 c_check_edges
theorem bn_check_edges (T : Tx P w K mg base) : Binds K (fdOf K d_check_edges.at_) p_check_edges [] := T.d_check_edges.bindsN fun _ _ _ _ _ _ us hl => match us, hl with | [_], _ => rfl
theorem ok_check_edges (T : Tx P w K mg base) : FnX zz P w K mg base (gc K) 3 (fAd K d_check_edges.at_) (fdOf K d_check_edges.at_) p_check_edges f_check_edges := fnx_of (st := s_check_edges) (k := 2) (N := N_check_edges) (fb := c_check_edges) T.d_check_edges sc_check_edges fun cdv A outer s H E Wx hr hz tk hp =>
    sb_one (ss_for hp (si_enum (se_var 0) rfl T.n_enumerate) (sg_tup rfl (sgs_cons (sg_name 1 sc_check_edges.nd) (sgs_cons (sg_name 2 sc_check_edges.nd) (sgs_nil))) (kLen (kLen kLen0))) (sb_one (ss_if (st_not (st_tru (se_call (ks := []) (ok_is_edge T).fb (cv_fn (ok_is_edge T).ok (hr.mono (show 2 ≤ 2 by decide)) hz tk (bd_all (bn_is_edge T))) T.g_is_edge T.d_is_edge.kp (sa_cons asW (se_var 2) (sa_nil)) (sk_nil)))) (sb_one (ss_never)) (sb_nil))))
/-! ends_of -/
abbrev N_ends_of : List Str := ["edges", "source", "_", "target"]
abbrev p_ends_of : List Str := ["edges"]
theorem sc_ends_of : FnScope N_ends_of p_ends_of (defScope s_ends_of) := ⟨rfl, rfl, rfl, by decide +kernel, rfl, by decide +kernel, by decide +kernel⟩
def c_ends_of : Ev Fl :=
    fRet (eOp (opAdd) (eComp (iSrc (eVar 0)) (kTup (kCons (kName 1) (kCons (kName 2) (kCons (kName 2) (kNil))))) [1, 2] (fYes) (evW (eVar 1))) (eComp (iSrc (eVar 0)) (kTup (kCons (kName 2) (kCons (kName 2) (kCons (kName 3) (kNil))))) [2, 3] (fYes) (evW (eVar 3))))
def f_ends_of : Fn := fnOf 4 c_ends_of
theorem bn_ends_of (T : Tx P w K mg base) : Binds K (fdOf K d_ends_of.at_) p_ends_of [] := T.d_ends_of.bindsN fun _ _ _ _ _ _ us hl => match us, hl with | [_], _ => rfl
theorem ok_ends_of (T : Tx P w K mg base) : FnX zz P w K mg base (gc K) 1 (fAd K d_ends_of.at_) (fdOf K d_ends_of.at_) p_ends_of f_ends_of := fnx_of (st := s_ends_of) (k := 0) (N := N_ends_of) (fb := c_ends_of) T.d_ends_of sc_ends_of fun cdv A outer s H E Wx hr hz tk hp =>
    sb_one (ss_ret (se_op or_add (se_comp (own := [("source", 1), ("_", 2)]) rfl sc_ends_of.nd (si_any (se_var 0)) (blkOk_by (N := N_ends_of) (sc := defScope s_ends_of) (by decide +kernel)) (fun s H C cl fp => sg_tup rfl (sgs_cons (sg_name 1 sc_ends_of.nd) (sgs_cons (sg_name 2 sc_ends_of.nd) (sgs_cons (sg_name 2 sc_ends_of.nd) (sgs_nil)))) (kLen (kLen (kLen kLen0)))) (by decide) (fun s H C cl fp => sts_nil) asW (fun s H C cl fp => se_var 1)) (se_comp (own := [("_", 2), ("target", 3)]) rfl sc_ends_of.nd (si_any (se_var 0)) (blkOk_by (N := N_ends_of) (sc := defScope s_ends_of) (by decide +kernel)) (fun s H C cl fp => sg_tup rfl (sgs_cons (sg_name 2 sc_ends_of.nd) (sgs_cons (sg_name 2 sc_ends_of.nd) (sgs_cons (sg_name 3 sc_ends_of.nd) (sgs_nil)))) (kLen (kLen (kLen kLen0)))) (by decide) (fun s H C cl fp => sts_nil) asW (fun s H C cl fp => se_var 3))))
/-! Graph.__init__ -/
abbrev N_Graph_QinitQ : List Str := ["self", "edges", "nodes", "node"]
abbrev p_Graph_QinitQ : List Str := ["self", "edges", "nodes"]
theorem sc_Graph_QinitQ : FnScope N_Graph_QinitQ p_Graph_QinitQ (defScope s_Graph_QinitQ) := ⟨rfl, rfl, rfl, by decide +kernel, rfl, by decide +kernel, by decide +kernel⟩
def c_Graph_QinitQ : Ev Fl :=
    fSeq (fExpr (eCallK f_check_edges (fun ws _ => ws) 1 0 (eaCons (evW (eVar 1)) (eaNil)) (eaNil)))
    (fSeq (fFor (iSrc (eVar 2)) (kName 3) (fIf (eNotT (eTru (eCallK f_is_node (fun ws _ => ws) 1 0 (eaCons (evW (eVar 3)) (eaNil)) (eaNil)))) (Ev.fail) (fNx)))
    (fSeq (fFld [7] "triples" (evW (eVar 0)) (evW (eBf (b1 dSortSet) (eaCons (evW (eVar 1)) (eaNil)))))
    (fFld [7] "points" (evW (eVar 0)) (evW (eBf (b1 dSortSet) (eaCons (evW (eLst (eaStar (evW (eCallK f_ends_of (fun ws _ => ws) 1 0 (eaCons (evW (eFld [7] "triples" (evW (eVar 0)))) (eaNil)) (eaNil))) (eaStar (evW (eVar 2)) (eaNil))))) (eaNil)))))))
def f_Graph_QinitQ : Fn := fnOf 4 c_Graph_QinitQ
theorem ok_Graph_QinitQ (T : Tx P w K mg base) : FnX zz P w K mg base (gc K) 4 (fAd K d_Graph_QinitQ.at_) (fdOf K d_Graph_QinitQ.at_) p_Graph_QinitQ f_Graph_QinitQ := fnx_of (st := s_Graph_QinitQ) (k := 3) (N := N_Graph_QinitQ) (fb := c_Graph_QinitQ) T.d_Graph_QinitQ sc_Graph_QinitQ fun cdv A outer s H E Wx hr hz tk hp =>
    sb_cons (ss_expr (se_call (ks := []) (ok_check_edges T).fb (cv_fn (ok_check_edges T).ok (hr.mono (show 3 ≤ 3 by decide)) hz tk (bd_all (bn_check_edges T))) T.g_check_edges T.d_check_edges.kp (sa_cons asW (se_var 1) (sa_nil)) (sk_nil)))
    (sb_cons (ss_for hp (si_any (se_var 2)) (sg_name 3 sc_Graph_QinitQ.nd) (sb_one (ss_if (st_not (st_tru (se_call (ks := []) (ok_is_node T).fb (cv_fn (ok_is_node T).ok (hr.mono (show 1 ≤ 3 by decide)) hz tk (bd_all (bn_is_node T))) T.g_is_node T.d_is_node.kp (sa_cons asW (se_var 3) (sa_nil)) (sk_nil)))) (sb_one (ss_never)) (sb_nil))))
    (sb_cons (ss_fld (T.f_Graph_triples) asW asW (se_var 0) (se_sortSet rfl (u160 hr) rfl T.n_sorted rfl T.n_set (sa_cons asW (se_var 1) (sa_nil))))
    (sb_one (ss_fld (T.f_Graph_points) asW asW (se_var 0) (se_sortSet rfl (u160 hr) rfl T.n_sorted rfl T.n_set (sa_cons asW (se_lst (sa_star asW (se_call (ks := []) (ok_ends_of T).fb (cv_fn (ok_ends_of T).ok (hr.mono (show 1 ≤ 3 by decide)) hz tk (bd_all (bn_ends_of T))) T.g_ends_of T.d_ends_of.kp (sa_cons asW (se_fld (T.f_Graph_triples) asW (se_var 0)) (sa_nil)) (sk_nil)) (sa_star asW (se_var 2) (sa_nil)))) (sa_nil)))))))
theorem bs_0 (T : Tx P w K mg base) : Bd K (gc K) (fdOf K d_Graph_QinitQ.at_) p_Graph_QinitQ 2 ["nodes"] gApp := bd_kw T.d_Graph_QinitQ fun _ _ _ _ _ _ us ws h1 h2 => match us, ws, h1, h2 with | [_, _], [_], _, _ => rfl
/-! _law_drawn -/
abbrev N__law_drawn : List Str := ["bag", "edges", "node", "found", "turn", "out", "edge"]
abbrev p__law_drawn : List Str := ["bag", "edges", "node"]
theorem sc__law_drawn : FnScope N__law_drawn p__law_drawn (defScope s__law_drawn) := ⟨rfl, rfl, rfl, by decide +kernel, rfl, by decide +kernel, by decide +kernel⟩
def c__law_drawn : Ev Fl :=
    fSeq (fSet 3 (evN (eLst (eaNil))))
    (fSeq (fFor (iRange1 (eaCons (evW (eCallK f__law_take (fun ws _ => ws) 2 0 (eaCons (evN (eVar 0)) (eaCons (evW (eC (.int 7))) (eaNil))) (eaNil))) (eaNil))) (kName 4) (fSeq (fSet 5 (evW (eComp (iSrc (eVar 1)) (kName 6) [6] (eOpT (opEq false) (eIx (eVar 6) (eC (.int 0))) (eVar 2)) (evW (eVar 6)))))
    (fIf (eOpT (opEq true) (eVar 5) (eLst (eaNil))) (fSeq (fExpr (eLm stAppend (evW (eVar 3)) (eaCons (evW (eCallK f__law_of (fun ws _ => ws) 2 0 (eaCons (evN (eVar 0)) (eaCons (evW (eVar 5)) (eaNil))) (eaNil))) (eaNil))))
    (fSet 2 (evW (eIx (eIx (eVar 3) (eNeg (eC (.int 1)))) (eC (.int 2)))))) (fNx))))
    (fRet (eTup (eaCons (evC (eVar 3)) (eaCons (evC (eVar 2)) (eaNil))))))
def f__law_drawn : Fn := fnOf 7 c__law_drawn
theorem bn__law_drawn (T : Tx P w K mg base) : Binds K (fdOf K d__law_drawn.at_) p__law_drawn [] := T.d__law_drawn.bindsN fun _ _ _ _ _ _ us hl => match us, hl with | [_, _, _], _ => rfl
theorem ok__law_drawn (T : Tx P w K mg base) : FnX zz P w K mg base (gc K) 3 (fAd K d__law_drawn.at_) (fdOf K d__law_drawn.at_) p__law_drawn f__law_drawn := fnx_of (st := s__law_drawn) (k := 2) (N := N__law_drawn) (fb := c__law_drawn) T.d__law_drawn sc__law_drawn fun cdv A outer s H E Wx hr hz tk hp =>
    sb_cons (ss_set (i := 3) sc__law_drawn.nd asN (se_lst (sa_nil)))
    (sb_cons (ss_for hp (si_range1 (sa_cons asW (se_call (ks := []) (ok__law_take T).fb (cv_fn (ok__law_take T).ok (hr.mono (show 1 ≤ 2 by decide)) hz tk (bd_all (bn__law_take T))) T.g__law_take T.d__law_take.kp (sa_cons asN (se_var 0) (sa_cons asW (se_int) (sa_nil))) (sk_nil)) (sa_nil)) rfl T.n_range) (sg_name 4 sc__law_drawn.nd) (sb_cons (ss_setLc (own := [("edge", 6)]) (i := 5) sc__law_drawn.nd asW (si_any (se_var 1)) (blkOk_by (N := N__law_drawn) (sc := defScope s__law_drawn) (by decide +kernel)) (fun s H C cl fp => sg_name 6 sc__law_drawn.nd) (by decide) (fun s H C cl fp => sts_one (st_cmpE (or_eq (u64 hr)) (se_ix (se_var 6) (se_int)) (se_var 2))) asW (fun s H C cl fp => se_var 6))
    (sb_one (ss_if (st_cmpE (or_ne (u64 hr)) (se_var 5) (se_lst (sa_nil))) (sb_cons (ss_expr (se_append asW (se_var 3) (sa_cons asW (se_call (ks := []) (ok__law_of T).fb (cv_fn (ok__law_of T).ok (hr.mono (show 2 ≤ 2 by decide)) hz tk (bd_all (bn__law_of T))) T.g__law_of T.d__law_of.kp (sa_cons asN (se_var 0) (sa_cons asW (se_var 5) (sa_nil))) (sk_nil)) (sa_nil))))
    (sb_one (ss_set (i := 2) sc__law_drawn.nd asW (se_ix (se_ix (se_var 3) (se_neg (se_int))) (se_int))))) (sb_nil)))))
    (sb_one (ss_ret (se_tup (sa_cons asC (se_var 3) (sa_cons asC (se_var 2) (sa_nil)))))))
/-! word_of -/
abbrev N_word_of : List Str := ["way", "_", "label"]
abbrev p_word_of : List Str := ["way"]
theorem sc_word_of : FnScope N_word_of p_word_of (defScope s_word_of) := ⟨rfl, rfl, rfl, by decide +kernel, rfl, by decide +kernel, by decide +kernel⟩
def c_word_of : Ev Fl :=
    fRet (eBf (b1 dTup) (eaCons (evW (eComp (iSrc (eVar 0)) (kTup (kCons (kName 1) (kCons (kName 2) (kCons (kName 1) (kNil))))) [1, 2] (fYes) (evW (eVar 2)))) (eaNil)))
def f_word_of : Fn := fnOf 3 c_word_of
theorem bn_word_of (T : Tx P w K mg base) : Binds K (fdOf K d_word_of.at_) p_word_of [] := T.d_word_of.bindsN fun _ _ _ _ _ _ us hl => match us, hl with | [_], _ => rfl
theorem ok_word_of (T : Tx P w K mg base) : FnX zz P w K mg base (gc K) 1 (fAd K d_word_of.at_) (fdOf K d_word_of.at_) p_word_of f_word_of := fnx_of (st := s_word_of) (k := 0) (N := N_word_of) (fb := c_word_of) T.d_word_of sc_word_of fun cdv A outer s H E Wx hr hz tk hp =>
    sb_one (ss_ret (se_bty cr_tuple rfl T.n_tuple (by decide +kernel) (sa_cons asW (se_comp (own := [("_", 1), ("label", 2)]) rfl sc_word_of.nd (si_any (se_var 0)) (blkOk_by (N := N_word_of) (sc := defScope s_word_of) (by decide +kernel)) (fun s H C cl fp => sg_tup rfl (sgs_cons (sg_name 1 sc_word_of.nd) (sgs_cons (sg_name 2 sc_word_of.nd) (sgs_cons (sg_name 1 sc_word_of.nd) (sgs_nil)))) (kLen (kLen (kLen kLen0)))) (by decide) (fun s H C cl fp => sts_nil) asW (fun s H C cl fp => se_var 2)) (sa_nil))))
/-! _law_bent -/
abbrev N__law_bent : List Str := ["bag", "way", "edges", "sort", "place"]
abbrev p__law_bent : List Str := ["bag", "way", "edges"]
theorem sc__law_bent : FnScope N__law_bent p__law_bent (defScope s__law_bent) := ⟨rfl, rfl, rfl, by decide +kernel, rfl, by decide +kernel, by decide +kernel⟩
def c__law_bent : Ev Fl :=
    fSeq (fSet 3 (evW (eCallK f__law_take (fun ws _ => ws) 2 0 (eaCons (evN (eVar 0)) (eaCons (evW (eC (.int 9))) (eaNil))) (eaNil))))
    (fSeq (fIf (eAndT (eOpT (opEq false) (eVar 3) (eC (.int 0))) (eOpT (opEq true) (eVar 1) (eLst (eaNil)))) (fSet 1 (evW (eOp (opAdd) (eVar 1) (eSl (eVar 1) (eoS (eNeg (eC (.int 1)))) (eoN))))) (fNx))
    (fSeq (fIf (eAndT (eOpT (opEq false) (eVar 3) (eC (.int 1))) (eOpT (opEq true) (eVar 1) (eLst (eaNil)))) (fSeq (fSet 4 (evW (eCallK f__law_take (fun ws _ => ws) 2 0 (eaCons (evN (eVar 0)) (eaCons (evW (eBf (bLen) (eaCons (evW (eVar 1)) (eaNil)))) (eaNil))) (eaNil))))
    (fSet 1 (evW (eOp (opAdd) (eSl (eVar 1) (eoN) (eoS (eVar 4))) (eSl (eVar 1) (eoS (eOp (opAdd) (eVar 4) (eC (.int 1)))) (eoN)))))) (fNx))
    (fSeq (fIf (eAndT (eOpT (opEq false) (eVar 3) (eC (.int 2))) (eOpT (opEq true) (eVar 1) (eLst (eaNil)))) (fSeq (fSet 4 (evW (eCallK f__law_take (fun ws _ => ws) 2 0 (eaCons (evN (eVar 0)) (eaCons (evW (eBf (bLen) (eaCons (evW (eVar 1)) (eaNil)))) (eaNil))) (eaNil))))
    (fSet 1 (evW (eOp (opAdd) (eOp (opAdd) (eSl (eVar 1) (eoN) (eoS (eVar 4))) (eLst (eaCons (evW (eTup (eaCons (evC (eIx (eIx (eVar 1) (eVar 4)) (eC (.int 2)))) (eaCons (evC (eIx (eIx (eVar 1) (eVar 4)) (eC (.int 1)))) (eaCons (evC (eIx (eIx (eVar 1) (eVar 4)) (eC (.int 0)))) (eaNil)))))) (eaNil)))) (eSl (eVar 1) (eoS (eOp (opAdd) (eVar 4) (eC (.int 1)))) (eoN)))))) (fNx))
    (fSeq (fIf (eOpT (opEq false) (eVar 3) (eC (.int 3))) (fRet (eBf (bList) (eaCons (evW (eVar 1)) (eaNil)))) (fNx))
    (fSeq (fIf (eOpT (opEq false) (eVar 3) (eC (.int 4))) (fSet 1 (evW (eRevL (eVar 1)))) (fNx))
    (fSeq (fIf (eOpT (opEq false) (eVar 3) (eC (.int 5))) (fRet (eCallK f__law_of (fun ws _ => ws) 2 0 (eaCons (evN (eVar 0)) (eaCons (evW (eLst (eaCons (evW (eC .non)) (eaCons (evW (eC (.int 0))) (eaCons (evW (eC (.str ""))) (eaCons (evW (eIx (eVar 2) (eC (.int 0)))) (eaCons (evW (eLst (eaNil))) (eaCons (evW (eTup (eaCons (evC (eTup (eaNil))) (eaNil)))) (eaCons (evW (eTup (eaCons (evC (eSl (eIx (eVar 2) (eC (.int 0))) (eoN) (eoS (eC (.int 2))))) (eaNil)))) (eaCons (evW (eTup (eaCons (evC (eC (.int 1))) (eaCons (evC (eC (.int 2))) (eaNil))))) (eaCons (evW (eBf (b1 dTup) (eaCons (evW (eLst (eaCons (evW (eBf (bList) (eaCons (evW (eIx (eVar 2) (eC (.int 0)))) (eaNil)))) (eaNil)))) (eaNil)))) (eaNil)))))))))))) (eaNil))) (eaNil))) (fNx))
    (fSeq (fIf (eOpT (opEq false) (eVar 3) (eC (.int 6))) (fSet 1 (evW (eOp (opAdd) (eVar 1) (eLst (eaCons (evW (eCallK f__law_of (fun ws _ => ws) 2 0 (eaCons (evN (eVar 0)) (eaCons (evW (eVar 2)) (eaNil))) (eaNil))) (eaNil)))))) (fNx))
    (fRet (eBf (b1 dTup) (eaCons (evW (eVar 1)) (eaNil)))))))))))
def f__law_bent : Fn := fnOf 5 c__law_bent
theorem bn__law_bent (T : Tx P w K mg base) : Binds K (fdOf K d__law_bent.at_) p__law_bent [] := T.d__law_bent.bindsN fun _ _ _ _ _ _ us hl => match us, hl with | [_, _, _], _ => rfl
theorem ok__law_bent (T : Tx P w K mg base) : FnX zz P w K mg base (gc K) 3 (fAd K d__law_bent.at_) (fdOf K d__law_bent.at_) p__law_bent f__law_bent := fnx_of (st := s__law_bent) (k := 2) (N := N__law_bent) (fb := c__law_bent) T.d__law_bent sc__law_bent fun cdv A outer s H E Wx hr hz tk hp =>
    sb_cons (ss_set (i := 3) sc__law_bent.nd asW (se_call (ks := []) (ok__law_take T).fb (cv_fn (ok__law_take T).ok (hr.mono (show 1 ≤ 2 by decide)) hz tk (bd_all (bn__law_take T))) T.g__law_take T.d__law_take.kp (sa_cons asN (se_var 0) (sa_cons asW (se_int) (sa_nil))) (sk_nil)))
    (sb_cons (ss_if (st_bool (sw_and (st_cmpE (or_eq (u64 hr)) (se_var 3) (se_int)) (sw_and1 (st_cmpE (or_ne (u64 hr)) (se_var 1) (se_lst (sa_nil)))))) (sb_one (ss_set (i := 1) sc__law_bent.nd asW (se_op or_add (se_var 1) (se_slice (se_var 1) (so_some (se_neg (se_int))) (so_none))))) (sb_nil))
    (sb_cons (ss_if (st_bool (sw_and (st_cmpE (or_eq (u64 hr)) (se_var 3) (se_int)) (sw_and1 (st_cmpE (or_ne (u64 hr)) (se_var 1) (se_lst (sa_nil)))))) (sb_cons (ss_set (i := 4) sc__law_bent.nd asW (se_call (ks := []) (ok__law_take T).fb (cv_fn (ok__law_take T).ok (hr.mono (show 1 ≤ 2 by decide)) hz tk (bd_all (bn__law_take T))) T.g__law_take T.d__law_take.kp (sa_cons asN (se_var 0) (sa_cons asW (se_bf cr_len rfl T.n_len (by decide +kernel) (sa_cons asW (se_var 1) (sa_nil))) (sa_nil))) (sk_nil)))
    (sb_one (ss_set (i := 1) sc__law_bent.nd asW (se_op or_add (se_slice (se_var 1) (so_none) (so_some (se_var 4))) (se_slice (se_var 1) (so_some (se_op or_add (se_var 4) (se_int))) (so_none)))))) (sb_nil))
    (sb_cons (ss_if (st_bool (sw_and (st_cmpE (or_eq (u64 hr)) (se_var 3) (se_int)) (sw_and1 (st_cmpE (or_ne (u64 hr)) (se_var 1) (se_lst (sa_nil)))))) (sb_cons (ss_set (i := 4) sc__law_bent.nd asW (se_call (ks := []) (ok__law_take T).fb (cv_fn (ok__law_take T).ok (hr.mono (show 1 ≤ 2 by decide)) hz tk (bd_all (bn__law_take T))) T.g__law_take T.d__law_take.kp (sa_cons asN (se_var 0) (sa_cons asW (se_bf cr_len rfl T.n_len (by decide +kernel) (sa_cons asW (se_var 1) (sa_nil))) (sa_nil))) (sk_nil)))
    (sb_one (ss_set (i := 1) sc__law_bent.nd asW (se_op or_add (se_op or_add (se_slice (se_var 1) (so_none) (so_some (se_var 4))) (se_lst (sa_cons asW (se_tup (sa_cons asC (se_ix (se_ix (se_var 1) (se_var 4)) (se_int)) (sa_cons asC (se_ix (se_ix (se_var 1) (se_var 4)) (se_int)) (sa_cons asC (se_ix (se_ix (se_var 1) (se_var 4)) (se_int)) (sa_nil))))) (sa_nil)))) (se_slice (se_var 1) (so_some (se_op or_add (se_var 4) (se_int))) (so_none)))))) (sb_nil))
    (sb_cons (ss_if (st_cmpE (or_eq (u64 hr)) (se_var 3) (se_int)) (sb_one (ss_ret (se_bty cr_list rfl T.n_list (by decide +kernel) (sa_cons asW (se_var 1) (sa_nil))))) (sb_nil))
    (sb_cons (ss_if (st_cmpE (or_eq (u64 hr)) (se_var 3) (se_int)) (sb_one (ss_set (i := 1) sc__law_bent.nd asW (se_revL (se_var 1)))) (sb_nil))
    (sb_cons (ss_if (st_cmpE (or_eq (u64 hr)) (se_var 3) (se_int)) (sb_one (ss_ret (se_call (ks := []) (ok__law_of T).fb (cv_fn (ok__law_of T).ok (hr.mono (show 2 ≤ 2 by decide)) hz tk (bd_all (bn__law_of T))) T.g__law_of T.d__law_of.kp (sa_cons asN (se_var 0) (sa_cons asW (se_lst (sa_cons asW (se_non) (sa_cons asW (se_int) (sa_cons asW (se_str) (sa_cons asW (se_ix (se_var 2) (se_int)) (sa_cons asW (se_lst (sa_nil)) (sa_cons asW (se_tup (sa_cons asC (se_tup (sa_nil)) (sa_nil))) (sa_cons asW (se_tup (sa_cons asC (se_slice (se_ix (se_var 2) (se_int)) (so_none) (so_some (se_int))) (sa_nil))) (sa_cons asW (se_tup (sa_cons asC (se_int) (sa_cons asC (se_int) (sa_nil)))) (sa_cons asW (se_bty cr_tuple rfl T.n_tuple (by decide +kernel) (sa_cons asW (se_lst (sa_cons asW (se_bty cr_list rfl T.n_list (by decide +kernel) (sa_cons asW (se_ix (se_var 2) (se_int)) (sa_nil))) (sa_nil))) (sa_nil))) (sa_nil))))))))))) (sa_nil))) (sk_nil)))) (sb_nil))
    (sb_cons (ss_if (st_cmpE (or_eq (u64 hr)) (se_var 3) (se_int)) (sb_one (ss_set (i := 1) sc__law_bent.nd asW (se_op or_add (se_var 1) (se_lst (sa_cons asW (se_call (ks := []) (ok__law_of T).fb (cv_fn (ok__law_of T).ok (hr.mono (show 2 ≤ 2 by decide)) hz tk (bd_all (bn__law_of T))) T.g__law_of T.d__law_of.kp (sa_cons asN (se_var 0) (sa_cons asW (se_var 2) (sa_nil))) (sk_nil)) (sa_nil)))))) (sb_nil))
    (sb_one (ss_ret (se_bty cr_tuple rfl T.n_tuple (by decide +kernel) (sa_cons asW (se_var 1) (sa_nil))))))))))))
/-! BadManner.__init__ -/
abbrev p_BadManner_QinitQ : List Str := ["self", "manner"]
theorem sc_BadManner_QinitQ : FnScope p_BadManner_QinitQ p_BadManner_QinitQ (defScope s_BadManner_QinitQ) := ⟨rfl, rfl, rfl, by decide +kernel, rfl, by decide +kernel, by decide +kernel⟩
theorem bn_BadManner_QinitQ (T : Tx P w K mg base) : Binds K (fdOf K d_BadManner_QinitQ.at_) p_BadManner_QinitQ [] := T.d_BadManner_QinitQ.bindsN fun _ _ _ _ _ _ us hl => match us, hl with | [_, _], _ => rfl
theorem ok_BadManner_QinitQ (T : Tx P w K mg base) : FnOk P w K mg base (L2.CX P w) 1 (fAd K d_BadManner_QinitQ.at_) (fdOf K d_BadManner_QinitQ.at_) p_BadManner_QinitQ (spI K "manner") := (fnz_of (z := false) (cx := L2.CX P w) (k := 0) T.d_BadManner_QinitQ sc_BadManner_QinitQ (fun _ _ _ _ h => spI_len h) fun cdv A os s H xs Q E hr hz h => ⟨_, pss_one (ps_ost (pe_var (i := 0) rfl (.inl rfl)) (pe_var (i := 1) rfl (.inl rfl))), spI_run rfl h⟩).fn
/-! Manner.rank -/
abbrev N_Manner_rank : List Str := ["manner"]
abbrev p_Manner_rank : List Str := ["manner"]
theorem sc_Manner_rank : FnScope N_Manner_rank p_Manner_rank (defScope s_Manner_rank) := ⟨rfl, rfl, rfl, by decide +kernel, rfl, by decide +kernel, by decide +kernel⟩
def c_Manner_rank : Ev Fl :=
    fSeq (fIf (eOrT (eNotT (eTru (eBf (bIsi isiTab) (eaCons (evW (eVar 0)) (eaCons (evW (eC (.ty "str"))) eaNil))))) (eOpT (opIn true) (eVar 0) (eC (.tup [.str "walk", .str "trail", .str "path"])))) (fRaise 4 "manner" (eaCons (evC (eVar 0)) (eaNil))) (fNx))
    (fRet (eGix ["walk", "trail", "path"] (eVar 0)))
def f_Manner_rank : Fn := fnOf 1 c_Manner_rank
theorem bn_Manner_rank (T : Tx P w K mg base) : Binds K (fdA K (d_Manner_rank.at_ K)) p_Manner_rank [] := T.d_Manner_rank.bindsN fun _ _ _ _ _ _ us hl => match us, hl with | [_], _ => rfl
theorem ok_Manner_rank (T : Tx P w K mg base) : FnX zz P w K mg base (gc K) 3 (d_Manner_rank.at_ K) (fdA K (d_Manner_rank.at_ K)) p_Manner_rank f_Manner_rank := fnx_of (st := s_Manner_rank) (k := 2) (N := N_Manner_rank) (fb := c_Manner_rank) T.d_Manner_rank sc_Manner_rank fun cdv A outer s H E Wx hr hz tk hp =>
    sb_cons (ss_if (st_bool (sw_or (st_not (st_tru (se_bf (cr_isi T.isi) rfl T.n_isinstance (by decide +kernel) (sa_cons asW (se_var 0) (sa_cons asW (se_ty rfl T.n_str (by decide +kernel)) sa_nil))))) (sw_or1 (st_cmpE (or_notIn (u65 hr)) (se_var 0) (se_gtup T.c_MANNERS rfl))))) (sb_one (ss_raise (c := 4) T.x_BadManner.ox T.x_BadManner.no T.x_BadManner.ini T.x_BadManner.ty (ok_BadManner_QinitQ T) (hr.mono (show 2 ≤ 2 by decide)) (bn_BadManner_QinitQ T) tk rfl T.g_BadManner (sa_cons asC (se_var 0) (sa_nil)))) (sb_nil))
    (sb_one (ss_ret (se_gidx T.ix_MANNERS rfl (se_var 0))))
/-! NoNode.__init__ -/
abbrev p_NoNode_QinitQ : List Str := ["self", "node"]
theorem sc_NoNode_QinitQ : FnScope p_NoNode_QinitQ p_NoNode_QinitQ (defScope s_NoNode_QinitQ) := ⟨rfl, rfl, rfl, by decide +kernel, rfl, by decide +kernel, by decide +kernel⟩
theorem bn_NoNode_QinitQ (T : Tx P w K mg base) : Binds K (fdOf K d_NoNode_QinitQ.at_) p_NoNode_QinitQ [] := T.d_NoNode_QinitQ.bindsN fun _ _ _ _ _ _ us hl => match us, hl with | [_, _], _ => rfl
theorem ok_NoNode_QinitQ (T : Tx P w K mg base) : FnOk P w K mg base (L2.CX P w) 1 (fAd K d_NoNode_QinitQ.at_) (fdOf K d_NoNode_QinitQ.at_) p_NoNode_QinitQ (spL K "node") := (fnz_of (z := false) (cx := L2.CX P w) (k := 0) T.d_NoNode_QinitQ sc_NoNode_QinitQ (fun _ _ _ _ h => spL_len h) fun cdv A os s H xs Q E hr hz h => ⟨_, pss_one (ps_osl (pe_var (i := 0) rfl (.inl rfl)) (pe_var (i := 1) rfl (.inl rfl))), spL_run rfl h⟩).fn
/-! check_nodes -/
abbrev N_check_nodes : List Str := ["graph", "nodes", "node"]
abbrev p_check_nodes : List Str := ["graph", "nodes"]
theorem sc_check_nodes : FnScope N_check_nodes p_check_nodes (defScope s_check_nodes) := ⟨rfl, rfl, rfl, by decide +kernel, rfl, by decide +kernel, by decide +kernel⟩
def c_check_nodes : Ev Fl :=
    fFor (iSrc (eVar 1)) (kName 2) (fIf (eOpT (opIn true) (eVar 2) (eFld [7] "points" (evW (eVar 0)))) (fRaise 5 "node" (eaCons (evC (eVar 2)) (eaNil))) (fNx))
def f_check_nodes : Fn := fnOf 3 c_check_nodes
theorem ok_check_nodes (T : Tx P w K mg base) : FnS zz P w K mg base (gc K) 3 (fAd K d_check_nodes.at_) (fdOf K d_check_nodes.at_) p_check_nodes f_check_nodes := fns_of (st := s_check_nodes) (k := 2) (N := N_check_nodes) (fb := c_check_nodes) T.d_check_nodes sc_check_nodes fun cdv A outer s H E Wx hr hz tk hp =>
    sb_one (ss_for hp (si_any (se_var 1)) (sg_name 2 sc_check_nodes.nd) (sb_one (ss_if (st_cmpE (or_notIn (u65 hr)) (se_var 2) (se_fld (T.f_Graph_points) asW (se_var 0))) (sb_one (ss_raiseL (c := 5) T.x_NoNode.ox T.x_NoNode.no T.x_NoNode.ini T.x_NoNode.ty (ok_NoNode_QinitQ T) (hr.mono (show 2 ≤ 2 by decide)) (bn_NoNode_QinitQ T) tk rfl T.g_NoNode (sa_cons asC (se_var 2) (sa_nil)))) (sb_nil))))
/-! Graph.__contains__ -/
abbrev N_Graph_QcontainsQ : List Str := ["self", "thing"]
abbrev p_Graph_QcontainsQ : List Str := ["self", "thing"]
theorem sc_Graph_QcontainsQ : FnScope N_Graph_QcontainsQ p_Graph_QcontainsQ (defScope s_Graph_QcontainsQ) := ⟨rfl, rfl, rfl, by decide +kernel, rfl, by decide +kernel, by decide +kernel⟩
def c_Graph_QcontainsQ : Ev Fl :=
    fRet (eAndV (eCallK f_is_edge (fun ws _ => ws) 1 0 (eaCons (evW (eVar 1)) (eaNil)) (eaNil)) (eOpE (opIn false) (eVar 1) (eFld [7] "triples" (evW (eVar 0)))))
def f_Graph_QcontainsQ : Fn := fnOf 2 c_Graph_QcontainsQ
theorem bn_Graph_QcontainsQ (T : Tx P w K mg base) : Binds K (fdOf K d_Graph_QcontainsQ.at_) p_Graph_QcontainsQ [] := T.d_Graph_QcontainsQ.bindsN fun _ _ _ _ _ _ us hl => match us, hl with | [_, _], _ => rfl
theorem ok_Graph_QcontainsQ (T : Tx P w K mg base) : FnX zz P w K mg base (gc K) 3 (fAd K d_Graph_QcontainsQ.at_) (fdOf K d_Graph_QcontainsQ.at_) p_Graph_QcontainsQ f_Graph_QcontainsQ := fnx_of (st := s_Graph_QcontainsQ) (k := 2) (N := N_Graph_QcontainsQ) (fb := c_Graph_QcontainsQ) T.d_Graph_QcontainsQ sc_Graph_QcontainsQ fun cdv A outer s H E Wx hr hz tk hp =>
    sb_one (ss_ret (se_and (se_call (ks := []) (ok_is_edge T).fb (cv_fn (ok_is_edge T).ok (hr.mono (show 2 ≤ 2 by decide)) hz tk (bd_all (bn_is_edge T))) T.g_is_edge T.d_is_edge.kp (sa_cons asW (se_var 1) (sa_nil)) (sk_nil)) (se_one (se_cmpE (or_in (u65 hr)) (se_var 1) (se_fld (T.f_Graph_triples) asW (se_var 0))))))
/-! is_way -/
abbrev N_is_way : List Str := ["thing", "graph", "start", "finish", "manner", "rank", "seen", "edge"]
abbrev p_is_way : List Str := ["thing", "graph", "start", "finish", "manner"]
theorem sc_is_way : FnScope N_is_way p_is_way (defScope s_is_way) := ⟨rfl, rfl, rfl, by decide +kernel, rfl, by decide +kernel, by decide +kernel⟩
def c_is_way : Ev Fl :=
    fSeq (fSet 5 (evW (eCallK f_Manner_rank (fun ws _ => ws) 1 0 (eaCons (evW (eVar 4)) (eaNil)) (eaNil))))
    (fSeq (fExpr (eCallS f_check_nodes 1 [] 3 0 (eaCons (evW (eVar 1)) (eaCons (evW (eVar 2)) (eaCons (evW (eVar 3)) (eaNil)))) (eaNil)))
    (fSeq (fIf (eNotT (eTru (eBf (bIsi isiTab) (eaCons (evW (eVar 0)) (eaCons (evW (eC (.ty "tuple"))) eaNil))))) (fRet (eC (.bl false))) (fNx))
    (fSeq (fSet 6 (evN (eLst (eaCons (evW (eVar 2)) (eaNil)))))
    (fSeq (fFor (iSrc (eVar 0)) (kName 7) (fSeq (fIf (eOrT (eB (eOwnIn f_Graph_QcontainsQ 7 true (eVar 7) (eVar 1))) (eOpT (opEq true) (eIx (eVar 7) (eC (.int 0))) (eIx (eVar 6) (eNeg (eC (.int 1)))))) (fRet (eC (.bl false))) (fNx))
    (fExpr (eLm stAppend (evW (eVar 6)) (eaCons (evW (eIx (eVar 7) (eC (.int 2)))) (eaNil))))))
    (fSeq (fIf (eOpT (opEq true) (eIx (eVar 6) (eNeg (eC (.int 1)))) (eVar 3)) (fRet (eC (.bl false))) (fNx))
    (fSeq (fIf (eOpT (opEq false) (eVar 5) (eC (.int 1))) (fRet (eOpE (opEq false) (eBf (b1 dLenSet) (eaCons (evW (eVar 0)) (eaNil))) (eBf (bLen) (eaCons (evW (eVar 0)) (eaNil))))) (fNx))
    (fRet (eOrV (eOpE (opEq false) (eVar 5) (eC (.int 0))) (eOpE (opEq false) (eBf (b1 dLenSet) (eaCons (evW (eVar 6)) (eaNil))) (eBf (bLen) (eaCons (evW (eVar 6)) (eaNil))))))))))))
def f_is_way : Fn := fnOf 8 c_is_way
theorem ok_is_way (T : Tx P w K mg base) : FnX zz P w K mg base (gc K) 4 (fAd K d_is_way.at_) (fdOf K d_is_way.at_) p_is_way f_is_way := fnx_of (st := s_is_way) (k := 3) (N := N_is_way) (fb := c_is_way) T.d_is_way sc_is_way fun cdv A outer s H E Wx hr hz tk hp =>
    sb_cons (ss_set (i := 5) sc_is_way.nd asW (se_smeth (ks := []) (c := 6) (ok_Manner_rank T).fb (cv_fn (ok_Manner_rank T).ok (hr.mono (show 3 ≤ 3 by decide)) hz tk (bd_all (bn_Manner_rank T))) T.s_Manner_rank T.d_Manner_rank.kp (se_cls (c := 6) rfl T.g_Manner) (sa_cons asW (se_var 4) (sa_nil)) (sk_nil)))
    (sb_cons (ss_expr (se_callS (ks := []) (ok_check_nodes T).fb (cv_star (dw := []) (ok_check_nodes T) (hr.mono (show 3 ≤ 3 by decide)) hz tk (bst_of (g := gc K) (n := 1) (m := 3) (ks := []) T.d_check_nodes fun _ _ _ _ _ _ us ws h1 h2 => match us, ws, h1, h2 with | [_, _, _], [], _, _ => rfl)) T.g_check_nodes T.d_check_nodes.kp (sa_cons asW (se_var 1) (sa_cons asW (se_var 2) (sa_cons asW (se_var 3) (sa_nil)))) (sk_nil)))
    (sb_cons (ss_if (st_not (st_tru (se_bf (cr_isi T.isi) rfl T.n_isinstance (by decide +kernel) (sa_cons asW (se_var 0) (sa_cons asW (se_ty rfl T.n_tuple (by decide +kernel)) sa_nil))))) (sb_one (ss_ret (se_bl))) (sb_nil))
    (sb_cons (ss_set (i := 6) sc_is_way.nd asN (se_lst (sa_cons asW (se_var 2) (sa_nil))))
    (sb_cons (ss_for hp (si_any (se_var 0)) (sg_name 7 sc_is_way.nd) (sb_cons (ss_if (st_bool (sw_or (st_ownIn (or_ownNotIn T.w_Graph_QcontainsQ (ok_Graph_QcontainsQ T).ok rfl (hr.mono (show 3 ≤ 3 by decide)) hz tk (bn_Graph_QcontainsQ T)) (ok_Graph_QcontainsQ T).fb (se_var 7) (se_var 1)) (sw_or1 (st_cmpE (or_ne (u64 hr)) (se_ix (se_var 7) (se_int)) (se_ix (se_var 6) (se_neg (se_int))))))) (sb_one (ss_ret (se_bl))) (sb_nil))
    (sb_one (ss_expr (se_append asW (se_var 6) (sa_cons asW (se_ix (se_var 7) (se_int)) (sa_nil)))))))
    (sb_cons (ss_if (st_cmpE (or_ne (u64 hr)) (se_ix (se_var 6) (se_neg (se_int))) (se_var 3)) (sb_one (ss_ret (se_bl))) (sb_nil))
    (sb_cons (ss_if (st_cmpE (or_eq (u64 hr)) (se_var 5) (se_int)) (sb_one (ss_ret (se_cmpE (or_eq (u64 hr)) (se_lenSet rfl (u160 hr) rfl T.n_len rfl T.n_set (sa_cons asW (se_var 0) (sa_nil))) (se_bf cr_len rfl T.n_len (by decide +kernel) (sa_cons asW (se_var 0) (sa_nil)))))) (sb_nil))
    (sb_one (ss_ret (se_or (se_cmpE (or_eq (u64 hr)) (se_var 5) (se_int)) (se_one (se_cmpE (or_eq (u64 hr)) (se_lenSet rfl (u160 hr) rfl T.n_len rfl T.n_set (sa_cons asW (se_var 6) (sa_nil))) (se_bf cr_len rfl T.n_len (by decide +kernel) (sa_cons asW (se_var 6) (sa_nil))))))))))))))
theorem bs_1 (T : Tx P w K mg base) : Bd K (gc K) (fdOf K d_is_way.at_) p_is_way 4 [] (fun us ws => us ++ ([.d (.str "walk")] ++ ws)) := bd_kd T.d_is_way (List.cons_ne_nil _ _) [("manner", .str "walk")] [.d (.str "walk")] (fun F L => .cons (.str _) .nil) (fun q h => h) fun _ _ _ _ _ _ us mv ws h1 h2 h3 => match us, mv, ws, h1, h2, h3 with | [_, _, _, _], [_], [], _, _, _ => ⟨_, _, _, _, _, _, rfl, rfl, rfl⟩
theorem bs_2 (T : Tx P w K mg base) : Bd K (gc K) (fdOf K d_is_way.at_) p_is_way 4 ["manner"] gApp := bd_kw T.d_is_way fun _ _ _ _ _ _ us ws h1 h2 => match us, ws, h1, h2 with | [_, _, _, _], [_], _, _ => rfl
/-! _law_fits -/
abbrev N__law_fits : List Str := ["thing", "edges", "start", "finish", "rank", "node", "seen", "used", "edge"]
abbrev p__law_fits : List Str := ["thing", "edges", "start", "finish", "rank"]
theorem sc__law_fits : FnScope N__law_fits p__law_fits (defScope s__law_fits) := ⟨rfl, rfl, rfl, by decide +kernel, rfl, by decide +kernel, by decide +kernel⟩
def c__law_fits : Ev Fl :=
    fSeq (fIf (eNotT (eTru (eBf (bIsi isiTab) (eaCons (evW (eVar 0)) (eaCons (evW (eC (.ty "tuple"))) eaNil))))) (fRet (eC (.bl false))) (fNx))
    (fSeq (fPar3 5 6 7 (eaCons (evW (eVar 2)) (eaCons (evN (eLst (eaCons (evW (eVar 2)) (eaNil)))) (eaCons (evN (eLst (eaNil))) (eaNil)))))
    (fSeq (fFor (iSrc (eVar 0)) (kName 8) (fSeq (fIf (eOrT (eOpT (opIn true) (eVar 8) (eVar 1)) (eOrT (eOpT (opEq true) (eIx (eVar 8) (eC (.int 0))) (eVar 5)) (eAndT (eOpT (opIn false) (eVar 8) (eVar 7)) (eOpT (opEq false) (eVar 4) (eC (.int 1)))))) (fRet (eC (.bl false))) (fNx))
    (fSeq (fSet 5 (evW (eIx (eVar 8) (eC (.int 2)))))
    (fSeq (fIf (eAndT (eOpT (opIn false) (eVar 5) (eVar 6)) (eOpT (opEq false) (eVar 4) (eC (.int 2)))) (fRet (eC (.bl false))) (fNx))
    (fSeq (fExpr (eLm stAppend (evW (eVar 7)) (eaCons (evW (eVar 8)) (eaNil))))
    (fExpr (eLm stAppend (evW (eVar 6)) (eaCons (evW (eVar 5)) (eaNil)))))))))
    (fRet (eOpE (opEq false) (eVar 5) (eVar 3)))))
def f__law_fits : Fn := fnOf 9 c__law_fits
theorem bn__law_fits (T : Tx P w K mg base) : Binds K (fdOf K d__law_fits.at_) p__law_fits [] := T.d__law_fits.bindsN fun _ _ _ _ _ _ us hl => match us, hl with | [_, _, _, _, _], _ => rfl
theorem ok__law_fits (T : Tx P w K mg base) : FnX zz P w K mg base (gc K) 1 (fAd K d__law_fits.at_) (fdOf K d__law_fits.at_) p__law_fits f__law_fits := fnx_of (st := s__law_fits) (k := 0) (N := N__law_fits) (fb := c__law_fits) T.d__law_fits sc__law_fits fun cdv A outer s H E Wx hr hz tk hp =>
    sb_cons (ss_if (st_not (st_tru (se_bf (cr_isi T.isi) rfl T.n_isinstance (by decide +kernel) (sa_cons asW (se_var 0) (sa_cons asW (se_ty rfl T.n_tuple (by decide +kernel)) sa_nil))))) (sb_one (ss_ret (se_bl))) (sb_nil))
    (sb_cons (ss_par3 sc__law_fits.nd (sa_cons asW (se_var 2) (sa_cons asN (se_lst (sa_cons asW (se_var 2) (sa_nil))) (sa_cons asN (se_lst (sa_nil)) (sa_nil)))))
    (sb_cons (ss_for hp (si_any (se_var 0)) (sg_name 8 sc__law_fits.nd) (sb_cons (ss_if (st_bool (sw_or (st_cmpE (or_notIn (u65 hr)) (se_var 8) (se_var 1)) (sw_or (st_cmpE (or_ne (u64 hr)) (se_ix (se_var 8) (se_int)) (se_var 5)) (sw_or1 (st_bool (sw_and (st_cmpE (or_in (u65 hr)) (se_var 8) (se_var 7)) (sw_and1 (st_cmpE (or_eq (u64 hr)) (se_var 4) (se_int))))))))) (sb_one (ss_ret (se_bl))) (sb_nil))
    (sb_cons (ss_set (i := 5) sc__law_fits.nd asW (se_ix (se_var 8) (se_int)))
    (sb_cons (ss_if (st_bool (sw_and (st_cmpE (or_in (u65 hr)) (se_var 5) (se_var 6)) (sw_and1 (st_cmpE (or_eq (u64 hr)) (se_var 4) (se_int))))) (sb_one (ss_ret (se_bl))) (sb_nil))
    (sb_cons (ss_expr (se_append asW (se_var 7) (sa_cons asW (se_var 8) (sa_nil))))
    (sb_one (ss_expr (se_append asW (se_var 6) (sa_cons asW (se_var 5) (sa_nil))))))))))
    (sb_one (ss_ret (se_cmpE (or_eq (u64 hr)) (se_var 5) (se_var 3))))))
/-! _law_refused -/
abbrev N__law_refused : List Str := ["thing", "graph", "start", "finish", "manner", "e"]
abbrev p__law_refused : List Str := ["thing", "graph", "start", "finish", "manner"]
theorem sc__law_refused : FnScope N__law_refused p__law_refused (defScope s__law_refused) := ⟨rfl, rfl, rfl, by decide +kernel, rfl, by decide +kernel, by decide +kernel⟩
def c__law_refused : Ev Fl :=
    fSeq (fTryN [(tabS [4] [5], 5, selF [(4, fRet (eTup (eaCons (evC (eC (.str "manner"))) (eaCons (evC (eXf 4 "manner" (eVar 5))) (eaNil)))))]), (tabS [5] [], 5, selF [(5, fRet (eTup (eaCons (evC (eC (.str "node"))) (eaCons (evC (eXf 5 "node" (eVar 5))) (eaNil)))))])] (fExpr (eCallK f_is_way gApp 4 1 (eaCons (evW (eVar 0)) (eaCons (evW (eVar 1)) (eaCons (evW (eVar 2)) (eaCons (evW (eVar 3)) (eaNil))))) (eaCons (evW (eVar 4)) (eaNil)))))
    (fRet (eTup (eaNil)))
def f__law_refused : Fn := fnOf 6 c__law_refused
theorem bn__law_refused (T : Tx P w K mg base) : Binds K (fdOf K d__law_refused.at_) p__law_refused [] := T.d__law_refused.bindsN fun _ _ _ _ _ _ us hl => match us, hl with | [_, _, _, _, _], _ => rfl
theorem ok__law_refused (T : Tx P w K mg base) : FnX zz P w K mg base (gc K) 5 (fAd K d__law_refused.at_) (fdOf K d__law_refused.at_) p__law_refused f__law_refused := fnx_of (st := s__law_refused) (k := 4) (N := N__law_refused) (fb := c__law_refused) T.d__law_refused sc__law_refused fun cdv A outer s H E Wx hr hz tk hp =>
    sb_cons (ss_tryN sc__law_refused.nd tk (fun W pn xe tk hp => sb_one (ss_expr (se_call (ks := ["manner"]) (ok_is_way T).fb (cv_fn (ok_is_way T).ok (hr.mono (show 4 ≤ 4 by decide)) hz tk (bs_2 T)) T.g_is_way T.d_is_way.kp (sa_cons asW (se_var 0) (sa_cons asW (se_var 1) (sa_cons asW (se_var 2) (sa_cons asW (se_var 3) (sa_nil))))) (sk_cons asW (se_var 4) (sk_nil))))) (scl_cons (yes := [4]) (no := [5]) (i := 5) ⟨rfl, by decide, .inl T.g_BadManner⟩ (List.forall_mem_cons.mpr ⟨T.xm_BadManner_BadManner, List.forall_mem_nil _⟩) (List.forall_mem_cons.mpr ⟨T.xm_NoNode_BadManner, List.forall_mem_nil _⟩) rfl (.cons (fun a dd oe pn hzc hfs => sb_one (ss_ret (se_tup (sa_cons asC (se_str) (sa_cons asC (se_xf T.x_BadManner.xf T.x_BadManner.no hzc hfs (se_var 5)) (sa_nil)))))) (.nil)) (scl_cons (yes := [5]) (no := []) (i := 5) ⟨rfl, by decide, .inl T.g_NoNode⟩ (List.forall_mem_cons.mpr ⟨T.xm_NoNode_NoNode, List.forall_mem_nil _⟩) (List.forall_mem_nil _) rfl (.cons (fun a dd oe pn hzc hfs => sb_one (ss_ret (se_tup (sa_cons asC (se_str) (sa_cons asC (se_xf T.x_NoNode.xf T.x_NoNode.no hzc hfs (se_var 5)) (sa_nil)))))) (.nil)) (.nil))))
    (sb_one (ss_ret (se_tup (sa_nil))))
/-! _law_is_right -/
abbrev N__law_is_right : List Str := ["bag", "nodes", "labels", "edges", "graph", "turn", "start", "way", "finish", "thing", "told", "wrong", "far", "node", "due", "one", "rank", "edge"]
abbrev p__law_is_right : List Str := ["bag"]
theorem sc__law_is_right : FnScope N__law_is_right p__law_is_right (defScope s__law_is_right) := ⟨rfl, rfl, rfl, by decide +kernel, rfl, by decide +kernel, by decide +kernel⟩
def c__law_is_right : Ev Fl :=
    fSeq (fPar 1 2 (eaCons (evW (eCallK f__law_names (fun ws _ => ws) 3 0 (eaCons (evN (eVar 0)) (eaCons (evW (eC (.str "abz019"))) (eaCons (evW (eC (.int 5))) (eaNil)))) (eaNil))) (eaCons (evW (eCallK f__law_names (fun ws _ => ws) 3 0 (eaCons (evN (eVar 0)) (eaCons (evW (eC (.str "abyz"))) (eaCons (evW (eC (.int 3))) (eaNil)))) (eaNil))) (eaNil))))
    (fSeq (fSet 3 (evW (eCallK f__law_each (fun ws _ => ws) 1 0 (eaCons (evW (eCallK f__law_edges (fun ws _ => ws) 4 0 (eaCons (evN (eVar 0)) (eaCons (evW (eVar 1)) (eaCons (evW (eVar 2)) (eaCons (evW (eOp (opAdd) (eC (.int 1)) (eCallK f__law_take (fun ws _ => ws) 2 0 (eaCons (evN (eVar 0)) (eaCons (evW (eC (.int 8))) (eaNil))) (eaNil)))) (eaNil))))) (eaNil))) (eaNil)) (eaNil))))
    (fSeq (fSet 4 (evW (eMake 7 f_Graph_QinitQ gApp 2 1 (eaCons (evW (eVar 3)) (eaNil)) (eaCons (evW (eVar 1)) (eaNil)))))
    (fSeq (fFor (iRange1 (eaCons (evW (eC (.int 12))) (eaNil))) (kName 5) (fSeq (fSet 6 (evW (eCallK f__law_of (fun ws _ => ws) 2 0 (eaCons (evN (eVar 0)) (eaCons (evW (eVar 1)) (eaNil))) (eaNil))))
    (fSeq (fAsg (evD (eCallK f__law_drawn (fun ws _ => ws) 3 0 (eaCons (evN (eVar 0)) (eaCons (evW (eVar 3)) (eaCons (evW (eVar 6)) (eaNil)))) (eaNil))) (kTup (kCons (kName 7) (kCons (kName 8) (kNil)))))
    (fSeq (fIf (eOpT (opEq true) (eCallK f_word_of (fun ws _ => ws) 1 0 (eaCons (evW (eBf (b1 dTup) (eaCons (evW (eVar 7)) (eaNil)))) (eaNil)) (eaNil)) (eBf (b1 dTup) (eaCons (evW (eComp (iSrc (eVar 7)) (kName 17) [17] (fYes) (evW (eIx (eVar 17) (eC (.int 1)))))) (eaNil)))) (fRet (eC (.bl false))) (fNx))
    (fSeq (fSet 9 (evW (eIf (eOpT (opEq false) (eCallK f__law_take (fun ws _ => ws) 2 0 (eaCons (evN (eVar 0)) (eaCons (evW (eC (.int 3))) (eaNil))) (eaNil)) (eC (.int 0))) (eCallK f__law_bent (fun ws _ => ws) 3 0 (eaCons (evN (eVar 0)) (eaCons (evW (eVar 7)) (eaCons (evW (eVar 3)) (eaNil)))) (eaNil)) (eBf (b1 dTup) (eaCons (evW (eVar 7)) (eaNil))))))
    (fSeq (fIf (eOpT (opEq false) (eCallK f__law_take (fun ws _ => ws) 2 0 (eaCons (evN (eVar 0)) (eaCons (evW (eC (.int 6))) (eaNil))) (eaNil)) (eC (.int 0))) (fSet 6 (evW (eCallK f__law_of (fun ws _ => ws) 2 0 (eaCons (evN (eVar 0)) (eaCons (evW (eVar 1)) (eaNil))) (eaNil)))) (fNx))
    (fSeq (fIf (eOpT (opEq false) (eCallK f__law_take (fun ws _ => ws) 2 0 (eaCons (evN (eVar 0)) (eaCons (evW (eC (.int 6))) (eaNil))) (eaNil)) (eC (.int 0))) (fSet 8 (evW (eCallK f__law_of (fun ws _ => ws) 2 0 (eaCons (evN (eVar 0)) (eaCons (evW (eVar 1)) (eaNil))) (eaNil)))) (fNx))
    (fSeq (fSet 10 (evW (eLst (eaCons (evW (eCallK f_is_way (fun us ws => us ++ ([.d (.str "walk")] ++ ws)) 4 0 (eaCons (evW (eVar 9)) (eaCons (evW (eVar 4)) (eaCons (evW (eVar 6)) (eaCons (evW (eVar 8)) (eaNil))))) (eaNil))) (eaNil)))))
    (fSeq (fSet 10 (evW (eOp (opAdd) (eVar 10) (eComp (iSrc (eLst (eaCons (evW (eC (.str "walk"))) (eaCons (evW (eC (.str "trail"))) (eaCons (evW (eC (.str "path"))) (eaNil)))))) (kName 15) [15] (fYes) (evW (eCallK f_is_way gApp 4 1 (eaCons (evW (eVar 9)) (eaCons (evW (eVar 4)) (eaCons (evW (eVar 6)) (eaCons (evW (eVar 8)) (eaNil))))) (eaCons (evW (eVar 15)) (eaNil))))))))
    (fSeq (fIf (eOpT (opEq true) (eVar 10) (eComp (iSrc (eLst (eaCons (evW (eC (.int 0))) (eaCons (evW (eC (.int 0))) (eaCons (evW (eC (.int 1))) (eaCons (evW (eC (.int 2))) (eaNil))))))) (kName 16) [16] (fYes) (evW (eCallK f__law_fits (fun ws _ => ws) 5 0 (eaCons (evW (eVar 9)) (eaCons (evW (eVar 3)) (eaCons (evW (eVar 6)) (eaCons (evW (eVar 8)) (eaCons (evW (eVar 16)) (eaNil)))))) (eaNil))))) (fRet (eC (.bl false))) (fNx))
    (fIf (eOpT (opEq true) (eComp (iSrc (eVar 10)) (kName 15) [15] (eAndT (eOpT (opIsB true) (eVar 15) (eC (.bl true))) (eOpT (opIsB true) (eVar 15) (eC (.bl false)))) (evW (eVar 15))) (eLst (eaNil))) (fRet (eC (.bl false))) (fNx))))))))))))
    (fSeq (fSet 11 (evW (eCallK f__law_of (fun ws _ => ws) 2 0 (eaCons (evN (eVar 0)) (eaCons (evW (eLst (eaCons (evW (eC (.str "walks"))) (eaCons (evW (eC (.str ""))) (eaCons (evW (eC .non)) (eaCons (evW (eC (.int 0))) (eaCons (evW (eLst (eaCons (evW (eC (.str "walk"))) (eaNil)))) (eaCons (evW (eC (.str "WALK"))) (eaCons (evW (eC (.bl true))) (eaNil)))))))))) (eaNil))) (eaNil))))
    (fSeq (fSet 12 (evW (eCallK f__law_of (fun ws _ => ws) 2 0 (eaCons (evN (eVar 0)) (eaCons (evW (eLst (eaCons (evW (eC (.str "A"))) (eaCons (evW (eC .non)) (eaCons (evW (eC (.int 7))) (eaCons (evW (eC (.str "zzzzzzzzz"))) (eaCons (evW (eLst (eaCons (evW (eC (.str "a"))) (eaNil)))) (eaCons (evW (eC (.str ""))) (eaNil))))))))) (eaNil))) (eaNil))))
    (fSeq (fSet 13 (evW (eCallK f__law_of (fun ws _ => ws) 2 0 (eaCons (evN (eVar 0)) (eaCons (evW (eVar 1)) (eaNil))) (eaNil))))
    (fSeq (fSet 14 (evW (eLst (eaCons (evW (eTup (eaCons (evC (eC (.str "manner"))) (eaCons (evC (eVar 11)) (eaNil))))) (eaCons (evW (eTup (eaCons (evC (eC (.str "manner"))) (eaCons (evC (eVar 11)) (eaNil))))) (eaCons (evW (eTup (eaCons (evC (eC (.str "node"))) (eaCons (evC (eVar 12)) (eaNil))))) (eaCons (evW (eTup (eaCons (evC (eC (.str "node"))) (eaCons (evC (eVar 12)) (eaNil))))) (eaCons (evW (eTup (eaNil))) (eaNil)))))))))
    (fSeq (fSet 10 (evW (eLst (eaCons (evW (eCallK f__law_refused (fun ws _ => ws) 5 0 (eaCons (evW (eTup (eaNil))) (eaCons (evW (eVar 4)) (eaCons (evW (eVar 13)) (eaCons (evW (eVar 13)) (eaCons (evW (eVar 11)) (eaNil)))))) (eaNil))) (eaCons (evW (eCallK f__law_refused (fun ws _ => ws) 5 0 (eaCons (evW (eC (.int 5))) (eaCons (evW (eVar 4)) (eaCons (evW (eVar 12)) (eaCons (evW (eVar 12)) (eaCons (evW (eVar 11)) (eaNil)))))) (eaNil))) (eaNil))))))
    (fSeq (fSet 10 (evW (eOp (opAdd) (eVar 10) (eLst (eaCons (evW (eCallK f__law_refused (fun ws _ => ws) 5 0 (eaCons (evW (eTup (eaNil))) (eaCons (evW (eVar 4)) (eaCons (evW (eVar 12)) (eaCons (evW (eNeg (eC (.int 1)))) (eaCons (evW (eC (.str "path"))) (eaNil)))))) (eaNil))) (eaCons (evW (eCallK f__law_refused (fun ws _ => ws) 5 0 (eaCons (evW (eTup (eaNil))) (eaCons (evW (eVar 4)) (eaCons (evW (eVar 13)) (eaCons (evW (eVar 12)) (eaCons (evW (eC (.str "trail"))) (eaNil)))))) (eaNil))) (eaNil)))))))
    (fRet (eOpE (opEq false) (eBf (b1 dReprA) (eaCons (evW (eOp (opAdd) (eVar 10) (eLst (eaCons (evW (eCallK f__law_refused (fun ws _ => ws) 5 0 (eaCons (evW (eTup (eaNil))) (eaCons (evW (eVar 4)) (eaCons (evW (eVar 13)) (eaCons (evW (eVar 13)) (eaCons (evW (eC (.str "path"))) (eaNil)))))) (eaNil))) (eaNil))))) (eaNil))) (eBf (b1 dReprA) (eaCons (evW (eVar 14)) (eaNil))))))))))))))
def f__law_is_right : Fn := fnOf 18 c__law_is_right
theorem bn__law_is_right (T : Tx P w K mg base) : Binds K (fdOf K d__law_is_right.at_) p__law_is_right [] := T.d__law_is_right.bindsN fun _ _ _ _ _ _ us hl => match us, hl with | [_], _ => rfl
theorem ok__law_is_right (T : Tx P w K mg base) : FnX zz P w K mg base (gc K) 6 (fAd K d__law_is_right.at_) (fdOf K d__law_is_right.at_) p__law_is_right f__law_is_right := fnx_of (st := s__law_is_right) (k := 5) (N := N__law_is_right) (fb := c__law_is_right) T.d__law_is_right sc__law_is_right fun cdv A outer s H E Wx hr hz tk hp =>
    sb_cons (ss_par sc__law_is_right.nd (sa_cons asW (se_call (ks := []) (ok__law_names T).fb (cv_fn (ok__law_names T).ok (hr.mono (show 3 ≤ 5 by decide)) hz tk (bd_all (bn__law_names T))) T.g__law_names T.d__law_names.kp (sa_cons asN (se_var 0) (sa_cons asW (se_str) (sa_cons asW (se_int) (sa_nil)))) (sk_nil)) (sa_cons asW (se_call (ks := []) (ok__law_names T).fb (cv_fn (ok__law_names T).ok (hr.mono (show 3 ≤ 5 by decide)) hz tk (bd_all (bn__law_names T))) T.g__law_names T.d__law_names.kp (sa_cons asN (se_var 0) (sa_cons asW (se_str) (sa_cons asW (se_int) (sa_nil)))) (sk_nil)) (sa_nil))))
    (sb_cons (ss_set (i := 3) sc__law_is_right.nd asW (se_call (ks := []) (ok__law_each T).fb (cv_fn (ok__law_each T).ok (hr.mono (show 1 ≤ 5 by decide)) hz tk (bd_all (bn__law_each T))) T.g__law_each T.d__law_each.kp (sa_cons asW (se_call (ks := []) (ok__law_edges T).fb (cv_fn (ok__law_edges T).ok (hr.mono (show 3 ≤ 5 by decide)) hz tk (bd_all (bn__law_edges T))) T.g__law_edges T.d__law_edges.kp (sa_cons asN (se_var 0) (sa_cons asW (se_var 1) (sa_cons asW (se_var 2) (sa_cons asW (se_op or_add (se_int) (se_call (ks := []) (ok__law_take T).fb (cv_fn (ok__law_take T).ok (hr.mono (show 1 ≤ 5 by decide)) hz tk (bd_all (bn__law_take T))) T.g__law_take T.d__law_take.kp (sa_cons asN (se_var 0) (sa_cons asW (se_int) (sa_nil))) (sk_nil))) (sa_nil))))) (sk_nil)) (sa_nil)) (sk_nil)))
    (sb_cons (ss_set (i := 4) sc__law_is_right.nd asW (se_make (ks := ["nodes"]) (ok_Graph_QinitQ T).fb (cv_make (c := 7) T.m_Graph (ok_Graph_QinitQ T).ok (ok_Graph_QinitQ T).fb (hr.mono (show 5 ≤ 5 by decide)) hz tk (bs_0 T)) T.g_Graph T.m_Graph.kp (sa_cons asW (se_var 3) (sa_nil)) (sk_cons asW (se_var 1) (sk_nil))))
    (sb_cons (ss_for hp (si_range1 (sa_cons asW (se_int) (sa_nil)) rfl T.n_range) (sg_name 5 sc__law_is_right.nd) (sb_cons (ss_set (i := 6) sc__law_is_right.nd asW (se_call (ks := []) (ok__law_of T).fb (cv_fn (ok__law_of T).ok (hr.mono (show 2 ≤ 5 by decide)) hz tk (bd_all (bn__law_of T))) T.g__law_of T.d__law_of.kp (sa_cons asN (se_var 0) (sa_cons asW (se_var 1) (sa_nil))) (sk_nil)))
    (sb_cons (ss_asg (se_call (ks := []) (ok__law_drawn T).fb (cv_fn (ok__law_drawn T).ok (hr.mono (show 3 ≤ 5 by decide)) hz tk (bd_all (bn__law_drawn T))) T.g__law_drawn T.d__law_drawn.kp (sa_cons asN (se_var 0) (sa_cons asW (se_var 3) (sa_cons asW (se_var 6) (sa_nil)))) (sk_nil)) (sg_tup rfl (sgs_cons (sg_name 7 sc__law_is_right.nd) (sgs_cons (sg_name 8 sc__law_is_right.nd) (sgs_nil))) (kLen (kLen kLen0))))
    (sb_cons (ss_if (st_cmpE (or_ne (u64 hr)) (se_call (ks := []) (ok_word_of T).fb (cv_fn (ok_word_of T).ok (hr.mono (show 1 ≤ 5 by decide)) hz tk (bd_all (bn_word_of T))) T.g_word_of T.d_word_of.kp (sa_cons asW (se_bty cr_tuple rfl T.n_tuple (by decide +kernel) (sa_cons asW (se_var 7) (sa_nil))) (sa_nil)) (sk_nil)) (se_bty cr_tuple rfl T.n_tuple (by decide +kernel) (sa_cons asW (se_comp (own := [("edge", 17)]) rfl sc__law_is_right.nd (si_any (se_var 7)) (blkOk_by (N := N__law_is_right) (sc := defScope s__law_is_right) (by decide +kernel)) (fun s H C cl fp => sg_name 17 sc__law_is_right.nd) (by decide) (fun s H C cl fp => sts_nil) asW (fun s H C cl fp => se_ix (se_var 17) (se_int))) (sa_nil)))) (sb_one (ss_ret (se_bl))) (sb_nil))
    (sb_cons (ss_set (i := 9) sc__law_is_right.nd asW (se_ifx (st_cmpE (or_eq (u64 hr)) (se_call (ks := []) (ok__law_take T).fb (cv_fn (ok__law_take T).ok (hr.mono (show 1 ≤ 5 by decide)) hz tk (bd_all (bn__law_take T))) T.g__law_take T.d__law_take.kp (sa_cons asN (se_var 0) (sa_cons asW (se_int) (sa_nil))) (sk_nil)) (se_int)) (se_call (ks := []) (ok__law_bent T).fb (cv_fn (ok__law_bent T).ok (hr.mono (show 3 ≤ 5 by decide)) hz tk (bd_all (bn__law_bent T))) T.g__law_bent T.d__law_bent.kp (sa_cons asN (se_var 0) (sa_cons asW (se_var 7) (sa_cons asW (se_var 3) (sa_nil)))) (sk_nil)) (se_bty cr_tuple rfl T.n_tuple (by decide +kernel) (sa_cons asW (se_var 7) (sa_nil)))))
    (sb_cons (ss_if (st_cmpE (or_eq (u64 hr)) (se_call (ks := []) (ok__law_take T).fb (cv_fn (ok__law_take T).ok (hr.mono (show 1 ≤ 5 by decide)) hz tk (bd_all (bn__law_take T))) T.g__law_take T.d__law_take.kp (sa_cons asN (se_var 0) (sa_cons asW (se_int) (sa_nil))) (sk_nil)) (se_int)) (sb_one (ss_set (i := 6) sc__law_is_right.nd asW (se_call (ks := []) (ok__law_of T).fb (cv_fn (ok__law_of T).ok (hr.mono (show 2 ≤ 5 by decide)) hz tk (bd_all (bn__law_of T))) T.g__law_of T.d__law_of.kp (sa_cons asN (se_var 0) (sa_cons asW (se_var 1) (sa_nil))) (sk_nil)))) (sb_nil))
    (sb_cons (ss_if (st_cmpE (or_eq (u64 hr)) (se_call (ks := []) (ok__law_take T).fb (cv_fn (ok__law_take T).ok (hr.mono (show 1 ≤ 5 by decide)) hz tk (bd_all (bn__law_take T))) T.g__law_take T.d__law_take.kp (sa_cons asN (se_var 0) (sa_cons asW (se_int) (sa_nil))) (sk_nil)) (se_int)) (sb_one (ss_set (i := 8) sc__law_is_right.nd asW (se_call (ks := []) (ok__law_of T).fb (cv_fn (ok__law_of T).ok (hr.mono (show 2 ≤ 5 by decide)) hz tk (bd_all (bn__law_of T))) T.g__law_of T.d__law_of.kp (sa_cons asN (se_var 0) (sa_cons asW (se_var 1) (sa_nil))) (sk_nil)))) (sb_nil))
    (sb_cons (ss_set (i := 10) sc__law_is_right.nd asW (se_lst (sa_cons asW (se_call (ks := []) (ok_is_way T).fb (cv_fn (ok_is_way T).ok (hr.mono (show 4 ≤ 5 by decide)) hz tk (bs_1 T)) T.g_is_way T.d_is_way.kp (sa_cons asW (se_var 9) (sa_cons asW (se_var 4) (sa_cons asW (se_var 6) (sa_cons asW (se_var 8) (sa_nil))))) (sk_nil)) (sa_nil))))
    (sb_cons (ss_set (i := 10) sc__law_is_right.nd asW (se_op or_add (se_var 10) (se_comp (own := [("one", 15)]) rfl sc__law_is_right.nd (si_any (se_lst (sa_cons asW (se_str) (sa_cons asW (se_str) (sa_cons asW (se_str) (sa_nil)))))) (blkOk_by (N := N__law_is_right) (sc := defScope s__law_is_right) (by decide +kernel)) (fun s H C cl fp => sg_name 15 sc__law_is_right.nd) (by decide) (fun s H C cl fp => sts_nil) asW (fun s H C cl fp => se_call (ks := ["manner"]) (ok_is_way T).fb (cv_fn (ok_is_way T).ok (hr.mono (show 4 ≤ 5 by decide)) hz takes_WF (bs_2 T)) T.g_is_way T.d_is_way.kp (sa_cons asW (se_var 9) (sa_cons asW (se_var 4) (sa_cons asW (se_var 6) (sa_cons asW (se_var 8) (sa_nil))))) (sk_cons asW (se_var 15) (sk_nil))))))
    (sb_cons (ss_if (st_cmpE (or_ne (u64 hr)) (se_var 10) (se_comp (own := [("rank", 16)]) rfl sc__law_is_right.nd (si_any (se_lst (sa_cons asW (se_int) (sa_cons asW (se_int) (sa_cons asW (se_int) (sa_cons asW (se_int) (sa_nil))))))) (blkOk_by (N := N__law_is_right) (sc := defScope s__law_is_right) (by decide +kernel)) (fun s H C cl fp => sg_name 16 sc__law_is_right.nd) (by decide) (fun s H C cl fp => sts_nil) asW (fun s H C cl fp => se_call (ks := []) (ok__law_fits T).fb (cv_fn (ok__law_fits T).ok (hr.mono (show 1 ≤ 5 by decide)) hz takes_WF (bd_all (bn__law_fits T))) T.g__law_fits T.d__law_fits.kp (sa_cons asW (se_var 9) (sa_cons asW (se_var 3) (sa_cons asW (se_var 6) (sa_cons asW (se_var 8) (sa_cons asW (se_var 16) (sa_nil)))))) (sk_nil)))) (sb_one (ss_ret (se_bl))) (sb_nil))
    (sb_one (ss_if (st_cmpE (or_ne (u64 hr)) (se_comp (own := [("one", 15)]) rfl sc__law_is_right.nd (si_any (se_var 10)) (blkOk_by (N := N__law_is_right) (sc := defScope s__law_is_right) (by decide +kernel)) (fun s H C cl fp => sg_name 15 sc__law_is_right.nd) (by decide) (fun s H C cl fp => sts_one (st_bool (sw_and (st_cmpE or_isnotB (se_var 15) (se_bl)) (sw_and1 (st_cmpE or_isnotB (se_var 15) (se_bl)))))) asW (fun s H C cl fp => se_var 15)) (se_lst (sa_nil))) (sb_one (ss_ret (se_bl))) (sb_nil)))))))))))))
    (sb_cons (ss_set (i := 11) sc__law_is_right.nd asW (se_call (ks := []) (ok__law_of T).fb (cv_fn (ok__law_of T).ok (hr.mono (show 2 ≤ 5 by decide)) hz tk (bd_all (bn__law_of T))) T.g__law_of T.d__law_of.kp (sa_cons asN (se_var 0) (sa_cons asW (se_lst (sa_cons asW (se_str) (sa_cons asW (se_str) (sa_cons asW (se_non) (sa_cons asW (se_int) (sa_cons asW (se_lst (sa_cons asW (se_str) (sa_nil))) (sa_cons asW (se_str) (sa_cons asW (se_bl) (sa_nil))))))))) (sa_nil))) (sk_nil)))
    (sb_cons (ss_set (i := 12) sc__law_is_right.nd asW (se_call (ks := []) (ok__law_of T).fb (cv_fn (ok__law_of T).ok (hr.mono (show 2 ≤ 5 by decide)) hz tk (bd_all (bn__law_of T))) T.g__law_of T.d__law_of.kp (sa_cons asN (se_var 0) (sa_cons asW (se_lst (sa_cons asW (se_str) (sa_cons asW (se_non) (sa_cons asW (se_int) (sa_cons asW (se_str) (sa_cons asW (se_lst (sa_cons asW (se_str) (sa_nil))) (sa_cons asW (se_str) (sa_nil)))))))) (sa_nil))) (sk_nil)))
    (sb_cons (ss_set (i := 13) sc__law_is_right.nd asW (se_call (ks := []) (ok__law_of T).fb (cv_fn (ok__law_of T).ok (hr.mono (show 2 ≤ 5 by decide)) hz tk (bd_all (bn__law_of T))) T.g__law_of T.d__law_of.kp (sa_cons asN (se_var 0) (sa_cons asW (se_var 1) (sa_nil))) (sk_nil)))
    (sb_cons (ss_set (i := 14) sc__law_is_right.nd asW (se_lst (sa_cons asW (se_tup (sa_cons asC (se_str) (sa_cons asC (se_var 11) (sa_nil)))) (sa_cons asW (se_tup (sa_cons asC (se_str) (sa_cons asC (se_var 11) (sa_nil)))) (sa_cons asW (se_tup (sa_cons asC (se_str) (sa_cons asC (se_var 12) (sa_nil)))) (sa_cons asW (se_tup (sa_cons asC (se_str) (sa_cons asC (se_var 12) (sa_nil)))) (sa_cons asW (se_tup (sa_nil)) (sa_nil))))))))
    (sb_cons (ss_set (i := 10) sc__law_is_right.nd asW (se_lst (sa_cons asW (se_call (ks := []) (ok__law_refused T).fb (cv_fn (ok__law_refused T).ok (hr.mono (show 5 ≤ 5 by decide)) hz tk (bd_all (bn__law_refused T))) T.g__law_refused T.d__law_refused.kp (sa_cons asW (se_tup (sa_nil)) (sa_cons asW (se_var 4) (sa_cons asW (se_var 13) (sa_cons asW (se_var 13) (sa_cons asW (se_var 11) (sa_nil)))))) (sk_nil)) (sa_cons asW (se_call (ks := []) (ok__law_refused T).fb (cv_fn (ok__law_refused T).ok (hr.mono (show 5 ≤ 5 by decide)) hz tk (bd_all (bn__law_refused T))) T.g__law_refused T.d__law_refused.kp (sa_cons asW (se_int) (sa_cons asW (se_var 4) (sa_cons asW (se_var 12) (sa_cons asW (se_var 12) (sa_cons asW (se_var 11) (sa_nil)))))) (sk_nil)) (sa_nil)))))
    (sb_cons (ss_set (i := 10) sc__law_is_right.nd asW (se_op or_add (se_var 10) (se_lst (sa_cons asW (se_call (ks := []) (ok__law_refused T).fb (cv_fn (ok__law_refused T).ok (hr.mono (show 5 ≤ 5 by decide)) hz tk (bd_all (bn__law_refused T))) T.g__law_refused T.d__law_refused.kp (sa_cons asW (se_tup (sa_nil)) (sa_cons asW (se_var 4) (sa_cons asW (se_var 12) (sa_cons asW (se_neg (se_int)) (sa_cons asW (se_str) (sa_nil)))))) (sk_nil)) (sa_cons asW (se_call (ks := []) (ok__law_refused T).fb (cv_fn (ok__law_refused T).ok (hr.mono (show 5 ≤ 5 by decide)) hz tk (bd_all (bn__law_refused T))) T.g__law_refused T.d__law_refused.kp (sa_cons asW (se_tup (sa_nil)) (sa_cons asW (se_var 4) (sa_cons asW (se_var 13) (sa_cons asW (se_var 12) (sa_cons asW (se_str) (sa_nil)))))) (sk_nil)) (sa_nil))))))
    (sb_one (ss_ret (se_cmpE (or_eq (u64 hr)) (se_bf (cr_reprA (hz rfl) (u64 hr)) rfl T.n_repr (by decide +kernel) (sa_cons asW (se_op or_add (se_var 10) (se_lst (sa_cons asW (se_call (ks := []) (ok__law_refused T).fb (cv_fn (ok__law_refused T).ok (hr.mono (show 5 ≤ 5 by decide)) hz tk (bd_all (bn__law_refused T))) T.g__law_refused T.d__law_refused.kp (sa_cons asW (se_tup (sa_nil)) (sa_cons asW (se_var 4) (sa_cons asW (se_var 13) (sa_cons asW (se_var 13) (sa_cons asW (se_str) (sa_nil)))))) (sk_nil)) (sa_nil)))) (sa_nil))) (se_bf (cr_reprA (hz rfl) (u64 hr)) rfl T.n_repr (by decide +kernel) (sa_cons asW (se_var 14) (sa_nil)))))))))))))))
/-! _law_bag -/
abbrev N__law_bag : List Str := ["script", "at", "cell"]
abbrev p__law_bag : List Str := ["script", "at"]
theorem sc__law_bag : FnScope N__law_bag p__law_bag (defScope s__law_bag) := ⟨rfl, rfl, rfl, by decide +kernel, rfl, by decide +kernel, by decide +kernel⟩
def c__law_bag : Ev Fl :=
    fSeq (fSet 2 (evW (eIf (eOpT opLt (eVar 1) (eBf (bLen) (eaCons (evW (eVar 0)) (eaNil)))) (eBf (b1 dInt) (eaCons (evW (eIx (eVar 0) (eVar 1))) (eaNil))) (eC (.int 0)))))
    (fRet (eLst (eaCons (evW (eIf (eOpT opGe (eBf (b1 dAbs) (eaCons (evW (eVar 2)) (eaNil))) (eOp (opI2 fPow) (eC (.int 10)) (eC (.int 18)))) (eBf (b1 dAbs) (eaCons (evW (eVar 2)) (eaNil))) (eC (.int 0)))) (eaCons (evW (eOp (opAdd) (eOp (opAdd) (eOp (opI2 fMul) (eOp (opI2 fMod) (eBf (b1 dInt) (eaCons (evW (eVar 2)) (eaNil))) (eC (.int 2305843009213693951))) (eC (.int 5))) (eOp (opI2 fMul) (eC (.int 6007)) (eVar 1))) (eC (.int 811)))) (eaCons (evW (eC (.int 0))) (eaNil))))))
def f__law_bag : Fn := fnOf 3 c__law_bag
theorem bn__law_bag (T : Tx P w K mg base) : Binds K (fdOf K d__law_bag.at_) p__law_bag [] := T.d__law_bag.bindsN fun _ _ _ _ _ _ us hl => match us, hl with | [_, _], _ => rfl
theorem ok__law_bag (T : Tx P w K mg base) : FnX zz P w K mg base (gc K) 1 (fAd K d__law_bag.at_) (fdOf K d__law_bag.at_) p__law_bag f__law_bag := fnx_of (st := s__law_bag) (k := 0) (N := N__law_bag) (fb := c__law_bag) T.d__law_bag sc__law_bag fun cdv A outer s H E Wx hr hz tk hp =>
    sb_cons (ss_set (i := 2) sc__law_bag.nd asW (se_ifx (st_cmpE or_lt (se_var 1) (se_bf cr_len rfl T.n_len (by decide +kernel) (sa_cons asW (se_var 0) (sa_nil)))) (se_bty cr_int rfl T.n_int (by decide +kernel) (sa_cons asW (se_ix (se_var 0) (se_var 1)) (sa_nil))) (se_int)))
    (sb_one (ss_ret (se_lst (sa_cons asW (se_ifx (st_cmpE or_ge (se_bf cr_abs rfl T.n_abs (by decide +kernel) (sa_cons asW (se_var 2) (sa_nil))) (se_op or_pow (se_int) (se_int))) (se_bf cr_abs rfl T.n_abs (by decide +kernel) (sa_cons asW (se_var 2) (sa_nil))) (se_int)) (sa_cons asW (se_op or_add (se_op or_add (se_op or_mul (se_op or_mod (se_bty cr_int rfl T.n_int (by decide +kernel) (sa_cons asW (se_var 2) (sa_nil))) (se_int)) (se_int)) (se_op or_mul (se_int) (se_var 1))) (se_int)) (sa_cons asW (se_int) (sa_nil)))))))
/-! law -/
abbrev N_law : List Str := ["script", "at"]
abbrev p_law : List Str := ["script"]
theorem sc_law : FnScope N_law p_law (defScope s_law) := ⟨rfl, rfl, rfl, by decide +kernel, rfl, by decide +kernel, by decide +kernel⟩
def c_law : Ev Fl :=
    fSeq (fFor (iRange1 (eaCons (evW (eBf (b2I iMax) (eaCons (evW (eC (.int 1))) (eaCons (evW (eBf (b2I iMin) (eaCons (evW (eC (.int 3))) (eaCons (evW (eBf (bLen) (eaCons (evW (eVar 0)) (eaNil)))) (eaNil))))) (eaNil))))) (eaNil))) (kName 1) (fIf (eNotT (eTru (eCallK f__law_is_right (fun ws _ => ws) 1 0 (eaCons (evN (eCallK f__law_bag (fun ws _ => ws) 2 0 (eaCons (evW (eVar 0)) (eaCons (evW (eVar 1)) (eaNil))) (eaNil))) (eaNil)) (eaNil)))) (fRet (eC (.bl false))) (fNx)))
    (fRet (eOpE (opEq false) (eTup (eaCons (evC (eC (.str "walk"))) (eaCons (evC (eC (.str "trail"))) (eaCons (evC (eC (.str "path"))) (eaNil))))) (eTup (eaCons (evC (eC (.str "walk"))) (eaCons (evC (eC (.str "trail"))) (eaCons (evC (eC (.str "path"))) (eaNil)))))))
def f_law : Fn := fnOf 2 c_law
theorem bn_law (T : Tx P w K mg base) : Binds K (fdOf K d_law.at_) p_law [] := T.d_law.bindsN fun _ _ _ _ _ _ us hl => match us, hl with | [_], _ => rfl
theorem ok_law (T : Tx P w K mg base) : FnX zz P w K mg base (gc K) 7 (fAd K d_law.at_) (fdOf K d_law.at_) p_law f_law := fnx_of (st := s_law) (k := 6) (N := N_law) (fb := c_law) T.d_law sc_law fun cdv A outer s H E Wx hr hz tk hp =>
    sb_cons (ss_for hp (si_range1 (sa_cons asW (se_bf (cr_max2 rfl) rfl T.n_max (by decide +kernel) (sa_cons asW (se_int) (sa_cons asW (se_bf (cr_min2 rfl) rfl T.n_min (by decide +kernel) (sa_cons asW (se_int) (sa_cons asW (se_bf cr_len rfl T.n_len (by decide +kernel) (sa_cons asW (se_var 0) (sa_nil))) (sa_nil)))) (sa_nil)))) (sa_nil)) rfl T.n_range) (sg_name 1 sc_law.nd) (sb_one (ss_if (st_not (st_tru (se_call (ks := []) (ok__law_is_right T).fb (cv_fn (ok__law_is_right T).ok (hr.mono (show 6 ≤ 6 by decide)) hz tk (bd_all (bn__law_is_right T))) T.g__law_is_right T.d__law_is_right.kp (sa_cons asN (se_call (ks := []) (ok__law_bag T).fb (cv_fn (ok__law_bag T).ok (hr.mono (show 1 ≤ 6 by decide)) hz tk (bd_all (bn__law_bag T))) T.g__law_bag T.d__law_bag.kp (sa_cons asW (se_var 0) (sa_cons asW (se_var 1) (sa_nil))) (sk_nil)) (sa_nil)) (sk_nil)))) (sb_one (ss_ret (se_bl))) (sb_nil))))
    (sb_one (ss_ret (se_cmpE (or_eq (u64 hr)) (se_tup (sa_cons asC (se_cstr (c := 6) T.v_Manner_WALK (se_cls (c := 6) rfl T.g_Manner)) (sa_cons asC (se_cstr (c := 6) T.v_Manner_TRAIL (se_cls (c := 6) rfl T.g_Manner)) (sa_cons asC (se_cstr (c := 6) T.v_Manner_PATH (se_cls (c := 6) rfl T.g_Manner)) (sa_nil))))) (se_tup (sa_cons asC (se_str) (sa_cons asC (se_str) (sa_cons asC (se_str) (sa_nil))))))))
end
end L_k06

set_option maxHeartbeats 2000000
namespace L_k06
open PySem PyProof.Rows L2 He Pm
/-- the bag: three ints -/
def bagC (a b c : Int) : Cell := .lst [.d (.int a), .d (.int b), .d (.int c)]
structure BagOk (n : Nat) (c : Cell) : Prop where
  ex : ∃ a b k : Int, c = bagC a b k ∧ 0 ≤ a ∧ 0 ≤ b ∧ b < 2 ^ 63 + 2 ^ 62 ∧ 0 ≤ k ∧ k ≤ n
theorem take_spec {M : List (Option Cell)} {i n : Nat} {c : Cell} {m : Int} (h : M[i]? = some (some c)) (B : BagOk n c) (hn : n ≤ 1000000) (hm : 0 < m) (hm2 : m < 1000000) :
    Fw (f__law_take [.loc i, .d (.int m)] M) fun r M' => ∃ (k : Int) (c' : Cell), r = .d (.int k) ∧ 0 ≤ k ∧ k < m ∧ M' = M.set i (some c') ∧ BagOk (n + 1) c' := by
  obtain ⟨a, b, k, rfl, ha, hb, hb2, hk, hk2⟩ := B.ex
  have hi : i < M.length := (List.getElem?_eq_some_iff.mp h).1
  have g : ∀ x, (M.set i x)[i]? = some x := fun x => by rw [List.getElem?_set_self hi]
  unfold bagC at h
  unfold f__law_take
  rw [fw_fn]
  unfold c__law_take
  have lm : m.natAbs.log2 < 9000 := by
    have := log2_small (i := m) (by omega); omega
  by_cases h0 : 0 < a
  · simp [-Prod.exists, ixM_loc h, atI, ixN, h0, lstAt_loc h, fMod_ok hm, fDiv_ok hm lm, retR]
    exact ⟨Int.emod_nonneg _ (by omega), Int.emod_lt_of_pos _ hm, _, rfl, _, b, k, rfl, Int.ediv_nonneg ha (by omega), hb, hb2, hk, by omega⟩
  · have e1 : (b + 7368787 * (k + 1)).natAbs < 2 ^ 64 := by omega
    have l1 : (7368787 : Int).natAbs.log2 + (k + 1).natAbs.log2 < 1000000 := by
      have := log2_small (i := (7368787 : Int)) (by decide)
      have := log2_small (i := k + 1) (by omega)
      omega
    have e3 : ∀ x : Int, 0 ≤ x % 2305843009213693951 ∧ x % 2305843009213693951 < 2305843009213693951 := fun x => ⟨Int.emod_nonneg _ (by decide), Int.emod_lt_of_pos _ (by decide)⟩
    have l2 : (15485863 : Int).natAbs.log2 + (k + 1).natAbs.log2 < 1000000 := by
      have := log2_small (i := (15485863 : Int)) (by decide)
      have := log2_small (i := k + 1) (by omega)
      omega
    have l3 : (4096 : Int).natAbs.log2 < 9000 := by
      have := log2_small (i := (4096 : Int)) (by decide); omega
    have e4 : ((b + 7368787 * (k + 1)) ^ 3 % 2305843009213693951 + 15485863 * (k + 1)).natAbs < 2 ^ 64 := by
      have := e3 ((b + 7368787 * (k + 1)) ^ 3)
      omega
    simp [-Prod.exists, ixM_loc h, atI, ixN, h0, lstAt_loc h, fMod_ok hm, fMod_ok (j := 2305843009213693951) (by decide), fMod_ok (j := 2305843009213693921) (by decide), fDiv_ok (j := 4096) (by decide) l3, retR, ixM_loc (g _), fMul_ok l1, fMul_ok l2,
      fPow_ok (j := 3) ⟨by decide, by decide, e1⟩, fPow_ok (j := 2) ⟨by decide, by decide, e4⟩]
    exact ⟨Int.emod_nonneg _ (by omega), Int.emod_lt_of_pos _ hm, _, rfl, a, b, k + 1, rfl, ha, hb, hb2, by omega, by omega⟩
theorem bag_at {M : List (Option Cell)} {i : Nat} {c : Cell} (h : M[i]? = some (some c)) : i < M.length := (List.getElem?_eq_some_iff.mp h).1
/-- an answer drawn: the bag is another one -/
theorem of_spec {M : List (Option Cell)} {i n : Nat} {c : Cell} {xs : List D} (h : M[i]? = some (some c)) (B : BagOk n c) (hn : n ≤ 1000000) (h0 : 0 < xs.length) (h1 : xs.length < 1000000) :
    Fw (f__law_of [.loc i, .d (.lst xs)] M) fun r M' => ∃ (x : D) (c' : Cell), r = .d x ∧ x ∈ xs ∧ M' = M.set i (some c') ∧ BagOk (n + 1) c' := by
  have hi := bag_at h
  unfold f__law_of
  rw [fw_fn]
  unfold c__law_of
  simp [-Prod.exists]
  refine (take_spec (m := xs.length) h B hn (by omega) (by omega)).mono fun r M' ⟨k, c', e, k0, k1, eM, B'⟩ => ?_
  subst e eM
  obtain ⟨x, ex, hx⟩ := atI_mem k0 k1
  simp [-Prod.exists, ex]
  exact ⟨hx, c', rfl, B'⟩
theorem name_spec {M : List (Option Cell)} {i n : Nat} {c : Cell} {sg : Str} (h : M[i]? = some (some c)) (B : BagOk n c) (hn : n ≤ 900000) (h0 : 0 < sg.length) (h1 : sg.length < 1000000) :
    Fw (f__law_name [.loc i, .d (.str sg)] M) fun r M' => ∃ (w : Str) (c' : Cell), r = .d (.str w) ∧ Wd sg 8 w ∧ 0 < w.length ∧ M' = M.set i (some c') ∧ BagOk (n + 10) c' := by
  have hi := bag_at h
  unfold f__law_name
  rw [fw_fn]
  unfold c__law_name
  have sl := big
  rw [wp_seq]
  refine Wp.mono (Q := fun fl s => fl = .nx ∧ ∃ (k : Int) (c2 : Cell), s = ⟨[.w (.loc i), .w (.d (.str sg)), .w (.d (.int (1 + k))), .no, .no], M.set i (some c2), M.length⟩ ∧ 0 ≤ k ∧ k < 8 ∧ BagOk (n + 2) c2) ?_ ?_
  · simp [-Prod.exists]
    refine (take_spec (m := 3) h B (by omega) (by decide) (by decide)).mono fun r M1 ⟨k, c1, e, k0, k1, eM, B1⟩ => ?_
    subst e eM
    have size : ∀ (m : Int), 0 < m → m ≤ 8 → Fw (f__law_take [.loc i, .d (.int m)] (M.set i (some c1))) fun r M' => ∃ (k : Int) (c' : Cell), r = .d (.int k) ∧ 0 ≤ k ∧ k < 8 ∧ M' = M.set i (some c') ∧ BagOk (n + 2) c' := fun m m0 m1 =>
      (take_spec (m := m) (get_set hi) B1 (by omega) m0 (by omega)).mono fun r M' ⟨k, c', e1, e2, e3, e4, e5⟩ => ⟨k, c', e1, e2, by omega, by rw [e4]; simp, e5⟩
    by_cases hk : 0 < k
    · simp [-Prod.exists, hk]
      refine (size 2 (by decide) (by decide)).mono fun r M' ⟨k, c', e1, e2, e3, e4, e5⟩ => ?_
      subst e1 e4
      simp [-Prod.exists]
      exact ⟨k, c', ⟨rfl, rfl⟩, e2, e3, e5⟩
    · simp [-Prod.exists, hk]
      refine (size 8 (by decide) (by decide)).mono fun r M' ⟨k, c', e1, e2, e3, e4, e5⟩ => ?_
      subst e1 e4
      simp [-Prod.exists]
      exact ⟨k, c', ⟨rfl, rfl⟩, e2, e3, e5⟩
  · rintro fl s ⟨rfl, k, c2, rfl, k0, k1, B2⟩
    have e2 : (1 + k).toNat ≤ 8 := by omega
    simp [-Prod.exists, smallI]
    refine ⟨⟨by omega, by omega⟩, ?_⟩
    refine wp_loop (fun j s => ∃ (w : Str) (c3 : Cell) (t : Sl), s = ⟨[.w (.loc i), .w (.d (.str sg)), .w (.d (.int (1 + k))), .w (.d (.str w)), t], M.set i (some c3), M.length⟩ ∧ Wd sg j w ∧ w.length = j ∧ BagOk (n + 2 + j) c3)
      ⟨"", c2, .no, rfl, wd_nil sg, by decide, B2⟩ ?_ ?_
    · rintro j d s hd ⟨w, c3, t, rfl, W1, W2, B3⟩
      obtain ⟨rfl, hj⟩ := rngD_get hd
      refine ⟨_, rfl, ?_⟩
      simp [-Prod.exists, dLen_str (z := sg) (by omega)]
      refine (take_spec (m := sg.length) (get_set hi) B3 (by omega) (by omega) (by omega)).mono fun r M' ⟨q, c', e1, e2, e3, e4, e5⟩ => ?_
      subst e1 e4
      obtain ⟨x, ex, hx⟩ := atI_mem (xs := sg.cps.toList) e2 (by rw [Array.length_toList]; exact e3)
      obtain ⟨W3, W4⟩ := wd_add W1 hx
      have l1 : (⟨#[x]⟩ : Str).length = 1 := rfl
      simp [-Prod.exists, ixD_str (z := sg) (by omega), ex, opAdd_str (a := w) (b := ⟨#[x]⟩) (by omega)]
      exact ⟨_, c', ⟨rfl, rfl⟩, W3, by omega, e5⟩
    · rintro s ⟨w, c3, t, rfl, W1, W2, B3⟩
      simp at W1 W2 B3
      simp [-Prod.exists]
      exact ⟨⟨by omega, W1.sub⟩, by omega, c3, rfl, by
        obtain ⟨a, b, q, e, h1, h2, h3, h4, h5⟩ := B3.ex
        exact ⟨a, b, q, e, h1, h2, h3, h4, by omega⟩⟩
end L_k06

set_option maxHeartbeats 2000000
namespace L_k06
open PySem PyProof.Rows L2 He Pm
theorem BagOk.up {n m : Nat} {c : Cell} (B : BagOk n c) (h : n ≤ m) : BagOk m c := by
  obtain ⟨a, b, q, e, h1, h2, h3, h4, h5⟩ := B.ex
  exact ⟨a, b, q, e, h1, h2, h3, h4, by omega⟩
theorem set_same {M : List (Option Cell)} {i : Nat} {x : Option Cell} (h : M[i]? = some x) : M.set i x = M := by
  obtain ⟨h1, rfl⟩ := List.getElem?_eq_some_iff.mp h
  exact List.set_getElem_self h1
def NmInv (M : List (Option Cell)) (i n m : Nat) (sg : Str) (j : Nat) (s : S) : Prop := ∃ (xs : List D) (c3 : Cell) (t u : Sl), s = ⟨[.w (.loc i), .w (.d (.str sg)), .w (.d (.int m)), .w (.loc M.length), t, u], M.set i (some c3) ++ [some (.lst (xs.map .d))], M.length⟩ ∧
  xs.Nodup ∧ (0 < j → xs ≠ []) ∧ xs.length ≤ j ∧ (∀ x ∈ xs, isW sg x) ∧ BagOk (n + 10 * j) c3
theorem names_spec {M : List (Option Cell)} {i n : Nat} {c : Cell} {sg : Str} {m : Nat} (h : M[i]? = some (some c)) (B : BagOk n c) (hn : n ≤ 800000) (h0 : 0 < sg.length) (h1 : sg.length < 1000000) (hm : m ≤ 10) (hm0 : 0 < m) (ks : PyData.strOk sg = true) :
    Fw (f__law_names [.loc i, .d (.str sg), .d (.int m)] M) fun r M' => ∃ (xs : List D) (c' : Cell), r = .new (.lst ((srtD xs).map .d)) ∧ xs.Nodup ∧ xs ≠ [] ∧ xs.length ≤ m ∧ (∀ x ∈ xs, isW sg x) ∧ M' = M.set i (some c') ∧ BagOk (n + 100) c' := by
  have hi := bag_at h
  have big := big
  unfold f__law_names
  rw [fw_fn]
  unfold c__law_names
  have sm : smallI (m : Int) = true := decide_eq_true ⟨by omega, by omega⟩
  simp [-Prod.exists, sm]
  refine wp_loop (NmInv M i n m sg) ⟨[], c, .no, .no, by rw [set_same h]; rfl, List.nodup_nil, by simp, by simp, by simp, B⟩ ?_ ?_
  · rintro j d s hd ⟨xs, c3, t, u, rfl, X1, X2, X3, X4, B3⟩
    obtain ⟨rfl, hj⟩ := rngD_get hd
    refine ⟨_, rfl, ?_⟩
    have hi2 : i < (M.set i (some c3)).length := by simpa using hi
    have g1 : (M.set i (some c3) ++ [some (.lst (xs.map W.d))])[i]? = some (some c3) := by rw [get_app hi2, get_set hi]
    simp [-Prod.exists]
    refine (name_spec (sg := sg) g1 B3 (by omega) h0 h1).mono fun r M' ⟨w, c', e1, W1, W2, e4, e5⟩ => ?_
    subst e1 e4
    rw [set_app hi2]
    simp only [set_set']
    have lM : (M.set i (some c')).length = M.length := by simp
    have g2 : (M.set i (some c') ++ [some (.lst (xs.map W.d))])[M.length]? = some (some (.lst (xs.map W.d))) := by rw [get_app2 lM]; rfl
    have kw : isW sg (.str w) := ⟨w, rfl, W1, W2⟩
    have kx : okM 8 xs := fun x hx => (X4 x hx).okH ks 8
    by_cases hw : D.str w ∈ xs
    · have fin : NmInv M i n m sg (j + 1) ⟨[.w (.loc i), .w (.d (.str sg)), .w (.d (.int m)), .w (.loc M.length), .w (.d (.int (0 + j))), .w (.d (.str w))], M.set i (some c') ++ [some (.lst (xs.map .d))], M.length⟩ :=
        ⟨xs, c', _, _, rfl, X1, fun _ z => absurd (z ▸ hw) (by simp), by omega, X4, e5.up (by omega)⟩
      simpa [-Prod.exists, deepV_loc g2, opIn_yes (neg := true) (kw.okH ks 8) kx hw] using fin
    · have fin : NmInv M i n m sg (j + 1) ⟨[.w (.loc i), .w (.d (.str sg)), .w (.d (.int m)), .w (.loc M.length), .w (.d (.int (0 + j))), .w (.d (.str w))], M.set i (some c') ++ [some (.lst ((xs ++ [D.str w]).map .d))], M.length⟩ :=
        ⟨xs ++ [D.str w], c', _, _, rfl, by
          rw [List.nodup_append]
          exact ⟨X1, by simp, fun a ha b hb z => by
            have : b = D.str w := by simpa using hb
            exact hw (by rw [← this, ← z]; exact ha)⟩, fun _ => by simp, by simp; omega, fun x hx => by
          rcases List.mem_append.mp hx with q | q
          · exact X4 x q
          · have : x = D.str w := by simpa using q
            rw [this]; exact kw, e5.up (by omega)⟩
      have hl : xs.length < sizeLine := by omega
      simpa [-Prod.exists, deepV_loc g2, opIn_no (neg := true) (kw.okH ks 8) kx hw, lstAt_loc g2, stAppend, set_app2 lM, hl] using fin
  · rintro s ⟨xs, c3, t, u, rfl, X1, X2, X3, X4, B3⟩
    rw [rngD_len] at X2 X3 B3
    have hX3 : xs.length ≤ m := X3
    have lM : (M.set i (some c3)).length = M.length := by simp
    have g2 : (M.set i (some c3) ++ [some (.lst (xs.map W.d))])[M.length]? = some (some (.lst (xs.map W.d))) := by rw [get_app2 lM]; rfl
    have kx : okM 8 xs := fun x hx => (X4 x hx).okH ks 8
    have cx : cmpAll xs = true := cmp_words fun x hx => let ⟨w, e, _⟩ := X4 x hx; ⟨w, e⟩
    have bl : (Cell.lst ((srtD xs).map W.d)).belowB M.length = true := by simp [Cell.belowB, W.belowB]
    simp [-Prod.exists, b1_loc g2, dSort_ok kx cx (by omega), retR, bl]
    exact ⟨xs, rfl, X1, X2 (by omega), hX3, X4, c3, rfl, B3.up (by omega)⟩
end L_k06

set_option maxHeartbeats 2000000
namespace L_k06
open PySem PyProof.Rows L2 He Pm
theorem of_loc {M : List (Option Cell)} {i k n : Nat} {c : Cell} {xs : List D} (h : M[i]? = some (some c)) (hk : M[k]? = some (some (.lst (xs.map .d)))) (hik : i ≠ k) (B : BagOk n c) (hn : n ≤ 1000000) (h0 : 0 < xs.length) (h1 : xs.length < 1000000) :
    Fw (f__law_of [.loc i, .loc k] M) fun r M' => ∃ (x : D) (c' : Cell), r = .d x ∧ x ∈ xs ∧ M' = M.set i (some c') ∧ BagOk (n + 1) c' := by
  have hi := bag_at h
  unfold f__law_of
  rw [fw_fn]
  unfold c__law_of
  simp [-Prod.exists, bLen_loc hk]
  refine (take_spec (m := xs.length) h B hn (by omega) (by omega)).mono fun r M' ⟨q, c', e, k0, k1, eM, B'⟩ => ?_
  subst e eM
  have hk' : (M.set i (some c'))[k]? = some (some (.lst (xs.map .d))) := by rw [List.getElem?_set_ne hik]; exact hk
  obtain ⟨w, ew, hw⟩ := atI_mem (xs := xs.map W.d) k0 (by simpa using k1)
  obtain ⟨x, hx, rfl⟩ := List.mem_map.mp hw
  simp [-Prod.exists, ixM_loc hk', ew]
  exact ⟨hx, c', rfl, B'⟩
/-- an edge over these nodes and labels -/
def isE (ns lb : List D) (x : D) : Prop := ∃ s l t, x = .tup [s, l, t] ∧ s ∈ ns ∧ l ∈ lb ∧ t ∈ ns
def EdInv (M : List (Option Cell)) (i n m : Nat) (ns lb : List D) (j : Nat) (s : S) : Prop := ∃ (xs : List D) (c3 : Cell) (t u v : Sl), s = ⟨[.w (.loc i), .w (.d (.lst ns)), .w (.d (.lst lb)), .w (.d (.int m)), .w (.loc M.length), t, u, v], M.set i (some c3) ++ [some (.lst (xs.map .d))], M.length⟩ ∧
  xs.length = j ∧ (∀ x ∈ xs, isE ns lb x) ∧ BagOk (n + 10 * j) c3
theorem isE.okH {sg sl : Str} {ns lb : List D} {x : D} (k1 : PyData.strOk sg = true) (k2 : PyData.strOk sl = true) (hn : ∀ x ∈ ns, isW sg x) (hl : ∀ x ∈ lb, isW sl x) (h : isE ns lb x) : okH 8 x = true := by
  obtain ⟨s, l, t, rfl, h1, h2, h3⟩ := h
  simp only [Pm.okH, okHs, (hn s h1).okH k1 7, (hl l h2).okH k2 7, (hn t h3).okH k1 7, Bool.and_self]
theorem edges_spec {M : List (Option Cell)} {i n : Nat} {c : Cell} {sg sl : Str} {ns lb : List D} {m : Nat} (h : M[i]? = some (some c)) (B : BagOk n c) (hn : n ≤ 800000) (hm : m ≤ 100) (k1 : PyData.strOk sg = true) (k2 : PyData.strOk sl = true)
    (wn : ∀ x ∈ ns, isW sg x) (wl : ∀ x ∈ lb, isW sl x) (n0 : 0 < ns.length) (n1 : ns.length < 1000) (l0 : 0 < lb.length) (l1 : lb.length < 1000) :
    Fw (f__law_edges [.loc i, .d (.lst ns), .d (.lst lb), .d (.int m)] M) fun r M' => ∃ (xs : List D) (c' : Cell), r = .new (.lst (xs.map .d)) ∧ xs.length = m ∧ (∀ x ∈ xs, isE ns lb x) ∧ M' = M.set i (some c') ∧ BagOk (n + 1000) c' := by
  have hi := bag_at h
  have big := big
  unfold f__law_edges
  rw [fw_fn]
  unfold c__law_edges
  have sm : smallI (m : Int) = true := decide_eq_true ⟨by omega, by omega⟩
  simp [-Prod.exists, sm]
  refine wp_loop (EdInv M i n m ns lb) ⟨[], c, .no, .no, .no, by rw [set_same h]; rfl, by simp, by simp, B⟩ ?_ ?_
  · rintro j d s hd ⟨xs, c3, t, u, v, rfl, X3, X4, B3⟩
    obtain ⟨rfl, hj⟩ := rngD_get hd
    refine ⟨_, rfl, ?_⟩
    have hi2 : ∀ c3, i < (M.set i (some c3)).length := fun c3 => by simpa using hi
    have lM : ∀ c', (M.set i (some c')).length = M.length := fun c' => by simp
    have g1 : ∀ (c3 : Cell) (l : List (Option Cell)), (M.set i (some c3) ++ l)[i]? = some (some c3) := fun c3 l => by rw [get_app (hi2 c3), get_set hi]
    have g2 : ∀ (c3 : Cell) (ws : List W), (M.set i (some c3) ++ [some (.lst ws)])[M.length]? = some (some (.lst ws)) := fun c3 ws => by rw [get_app2 (lM c3)]; rfl
    have kx : okM 8 xs := fun x hx => (X4 x hx).okH k1 k2 wn wl
    have nil8 : okM 8 [] := fun x hx => by cases hx
    have hl : xs.length < sizeLine := by omega
    -- the end of a turn: one more edge
    have more : ∀ (e : D) (c' : Cell) (t u v : Sl), isE ns lb e → BagOk (n + 10 * j + 10) c' → EdInv M i n m ns lb (j + 1) ⟨[.w (.loc i), .w (.d (.lst ns)), .w (.d (.lst lb)), .w (.d (.int m)), .w (.loc M.length), t, u, v], M.set i (some c') ++ [some (.lst ((xs ++ [e]).map .d))], M.length⟩ :=
      fun e c' t u v he B' => ⟨xs ++ [e], c', t, u, v, rfl, by simp; omega, fun x hx => by
        rcases List.mem_append.mp hx with q | q
        · exact X4 x q
        · have : x = e := by simpa using q
          rw [this]; exact he, B'.up (by omega)⟩
    rw [wp_fif]
    refine Wp.mono (Q := fun b s => ∃ c', s = ⟨[.w (.loc i), .w (.d (.lst ns)), .w (.d (.lst lb)), .w (.d (.int m)), .w (.loc M.length), .w (.d (.int (0 + j))), u, v], M.set i (some c') ++ [some (.lst (xs.map .d))], M.length⟩ ∧ BagOk (n + 10 * j + 1) c' ∧ (b = true → xs ≠ [])) ?_ ?_
    · simp [-Prod.exists, deepV_loc (g2 _ _), opEq_lst (neg := true) kx nil8]
      cases xs with
      | nil =>
        simp [-Prod.exists, dEqs]
        exact ⟨c3, rfl, B3.up (by omega)⟩
      | cons e r =>
        simp [-Prod.exists, dEqs]
        refine (take_spec (m := 6) (g1 _ _) B3 (by omega) (by decide) (by decide)).mono fun r' M' ⟨q, c', e1, q0, q1, e4, e5⟩ => ?_
        subst e1 e4
        rw [set_app (hi2 _)]
        simp [-Prod.exists]
        by_cases hq : q = 0
        · exact .inr ⟨hq, c', rfl, e5⟩
        · exact .inl ⟨hq, c', rfl, e5⟩
    · rintro b s ⟨c', rfl, B4, hb⟩
      cases b with
      | true =>
        have hx0 : 0 < xs.length := List.length_pos_iff.mpr (hb rfl)
        rw [if_pos rfl]
        simp [-Prod.exists, lstAt_loc (g2 _ _)]
        refine (of_loc (g1 _ _) (g2 _ _) (by omega) B4 (by omega) hx0 (by omega)).mono fun r' M' ⟨x, c5, e1, hx, e4, e5⟩ => ?_
        subst e1 e4
        rw [set_app (hi2 _)]
        have fin := more x c5 (.w (.d (.int (0 + j)))) u v (X4 x hx) (e5.up (by omega))
        simpa [-Prod.exists, lstAt_loc (g2 _ _), stAppend, set_app2 (lM _), hl] using fin
      | false =>
        rw [if_neg (by simp)]
        simp [-Prod.exists]
        refine (of_spec (xs := ns) (g1 _ _) B4 (by omega) n0 (by omega)).mono fun r' M' ⟨x, c5, e1, hx, e4, B5⟩ => ?_
        subst e1 e4
        rw [set_app (hi2 _)]
        simp [-Prod.exists]
        refine (take_spec (m := 5) (g1 _ _) B5 (by omega) (by decide) (by decide)).mono fun r' M' ⟨q, c6, e1, q0, q1, e4, B6⟩ => ?_
        subst e1 e4
        rw [set_app (hi2 _)]
        -- the target
        have last : ∀ (y : D) (c7 : Cell) (hy : y ∈ ns) (B7 : BagOk (n + 10 * j + 4) c7), Fw (f__law_of [.loc i, .d (.lst lb)] (M.set i (some c7) ++ [some (.lst (xs.map .d))])) fun r' M' => ∃ (z : D) (c8 : Cell), r' = .d z ∧ z ∈ lb ∧ M' = M.set i (some c8) ++ [some (.lst (xs.map .d))] ∧ BagOk (n + 10 * j + 10) c8 := fun y c7 hy B7 =>
          (of_spec (xs := lb) (g1 _ _) B7 (by omega) l0 (by omega)).mono fun r' M' ⟨z, c8, e1, hz, e4, B8⟩ => ⟨z, c8, e1, hz, by rw [e4, set_app (hi2 _)]; simp, B8.up (by omega)⟩
        have l3 : 3 ≤ sizeLine := by omega
        by_cases hq : q = 0
        · simp [-Prod.exists, hq, lstAt_loc (g2 _ _)]
          refine (last x c6 hx (B6.up (by omega))).mono fun r' M' ⟨z, c8, e1, hz, e4, B8⟩ => ?_
          subst e1 e4
          have fin := more (.tup [x, z, x]) c8 (.w (.d (.int (0 + j)))) (.w (.d x)) (.w (.d x)) ⟨x, z, x, rfl, hx, hz, hx⟩ B8
          simpa [-Prod.exists, lstAt_loc (g2 _ _), stAppend, set_app2 (lM _), hl, l3] using fin
        · simp [-Prod.exists, hq]
          refine (of_spec (xs := ns) (g1 _ _) B6 (by omega) n0 (by omega)).mono fun r' M' ⟨y, c7, e1, hy, e4, B7⟩ => ?_
          subst e1 e4
          rw [set_app (hi2 _)]
          simp [-Prod.exists, lstAt_loc (g2 _ _)]
          refine (last y c7 hy (B7.up (by omega))).mono fun r' M' ⟨z, c8, e1, hz, e4, B8⟩ => ?_
          subst e1 e4
          have fin := more (.tup [x, z, y]) c8 (.w (.d (.int (0 + j)))) (.w (.d x)) (.w (.d y)) ⟨x, z, y, rfl, hx, hz, hy⟩ B8
          simpa [-Prod.exists, lstAt_loc (g2 _ _), stAppend, set_app2 (lM _), hl, l3] using fin
  · rintro s ⟨xs, c3, t, u, v, rfl, X3, X4, B3⟩
    rw [rngD_len] at X3 B3
    have hX3 : xs.length = m := X3
    have lM : (M.set i (some c3)).length = M.length := by simp
    have g2 : (M.set i (some c3) ++ [some (.lst (xs.map W.d))])[M.length]? = some (some (.lst (xs.map W.d))) := by rw [get_app2 lM]; rfl
    have bl : (Cell.lst (xs.map W.d)).belowB M.length = true := by simp [Cell.belowB, W.belowB]
    simp [-Prod.exists, retR, g2, bl]
    exact ⟨xs, rfl, hX3, X4, c3, rfl, B3.up (by omega)⟩
end L_k06

set_option maxHeartbeats 2000000
namespace L_k06
open PySem PyProof.Rows L2 He Pm
/-- a good name of a node -/
def goodN (w : Str) : Prop := 0 < w.length ∧ w.length ≤ 8 ∧ ∀ c ∈ w.cps.toList, c ∈ ("abcdefghijklmnopqrstuvwxyz0123456789" : Str).cps.toList
def goodL (w : Str) : Prop := 0 < w.length ∧ w.length ≤ 8 ∧ ∀ c ∈ w.cps.toList, c ∈ ("abcdefghijklmnopqrstuvwxyz" : Str).cps.toList
@[simp] theorem bIsi_str {M : List (Option Cell)} {tab : List (Tg × Tg × Bool)} {w : Str} : bIsi tab M [.d (.str w), .d (.ty "str")] = some (.d (.bl true)) := rfl
@[simp] theorem bIsi_tup {M : List (Option Cell)} {tab : List (Tg × Tg × Bool)} {w : List D} : bIsi tab M [.d (.tup w), .d (.ty "tuple")] = some (.d (.bl true)) := rfl
@[simp] theorem resB_lt {i j : Int} : resB opLt (.int i) (.int j) = some (.d (.bl (decide (i < j)))) := rfl
@[simp] theorem resB_le {i j : Int} : resB opLe (.int i) (.int j) = some (.d (.bl (decide (i ≤ j)))) := rfl
@[simp] theorem opIn_str {a b : Str} {neg : Bool} : opIn neg (.str a) (.str b) = some (xor neg (inStr a b)) := rfl
theorem cat_eq : (("abcdefghijklmnopqrstuvwxyz" : Str) ++ ("0123456789" : Str)) = ("abcdefghijklmnopqrstuvwxyz0123456789" : Str) := by decide +kernel
theorem node_spec {M : List (Option Cell)} {w : Str} (h : goodN w) : Fw (f_is_node [.d (.str w)] M) fun r M' => r = .d (.bl true) ∧ M' = M := by
  obtain ⟨h0, h1, h2⟩ := h
  have big := big
  unfold f_is_node
  rw [fw_fn]
  unfold c_is_node
  have hl : w.length ≤ sizeLine := by omega
  simp [-Prod.exists, dLen_str hl, h0, h1]
  refine .inr ⟨by omega, ?_⟩
  refine wp_compP (fun s => ∃ t, s = ⟨[.w (.d (.str w)), t], M, M.length⟩) (fun _ => true) (fun _ => .bl true) ?_
  have cat := opAdd_str (a := "abcdefghijklmnopqrstuvwxyz") (b := "0123456789") (by decide)
  rw [cat_eq] at cat
  have sz : w.cps.size ≤ sizeLine := hl
  simp [-Prod.exists, cat, inStr_sign, sz]
  exact ⟨fun a ha => by simpa using h2 a (by simpa using ha), _, dAll_true, rfl⟩
theorem label_spec {M : List (Option Cell)} {w : Str} (h : goodL w) : Fw (f_is_label [.d (.str w)] M) fun r M' => r = .d (.bl true) ∧ M' = M := by
  obtain ⟨h0, h1, h2⟩ := h
  have big := big
  unfold f_is_label
  rw [fw_fn]
  unfold c_is_label
  have hl : w.length ≤ sizeLine := by omega
  simp [-Prod.exists, dLen_str hl, h0, h1]
  refine .inr ⟨by omega, ?_⟩
  refine wp_compP (fun s => ∃ t, s = ⟨[.w (.d (.str w)), t], M, M.length⟩) (fun _ => true) (fun _ => .bl true) ?_
  have sz : w.cps.size ≤ sizeLine := hl
  simp [-Prod.exists, inStr_sign, sz]
  exact ⟨fun a ha => by simpa using h2 a (by simpa using ha), _, dAll_true, rfl⟩
/-- a good edge -/
def goodE (e : D) : Prop := ∃ s l t, e = .tup [.str s, .str l, .str t] ∧ goodN s ∧ goodL l ∧ goodN t
theorem edge_spec {M : List (Option Cell)} {e : D} (h : goodE e) : Fw (f_is_edge [.d e] M) fun r M' => r = .d (.bl true) ∧ M' = M := by
  obtain ⟨s, l, t, rfl, h1, h2, h3⟩ := h
  unfold f_is_edge
  rw [fw_fn]
  unfold c_is_edge
  simp [-Prod.exists, atI, ixN]
  refine (node_spec h1).mono fun r M' ⟨e1, e2⟩ => ?_
  subst e1 e2
  simp [-Prod.exists, atI, ixN]
  refine (label_spec h2).mono fun r M' ⟨e1, e2⟩ => ?_
  subst e1 e2
  simp [-Prod.exists, atI, ixN]
  refine (node_spec h3).mono fun r M' ⟨e1, e2⟩ => ?_
  subst e1 e2
  simp [-Prod.exists]
end L_k06

set_option maxHeartbeats 2000000
namespace L_k06
open PySem PyProof.Rows L2 He Pm
theorem enum_get {ds : List D} {i : Nat} {d : D} (h : (enumD ds)[i]? = some d) : ∃ x, d = .tup [.int i, x] ∧ x ∈ ds := by
  unfold enumD at h
  rw [List.getElem?_map] at h
  obtain ⟨q, hq, rfl⟩ := Option.map_eq_some_iff.mp h
  rw [List.getElem?_zipIdx] at hq
  obtain ⟨d0, hd0, rfl⟩ := Option.map_eq_some_iff.mp hq
  exact ⟨d0, by simp, List.mem_of_getElem? hd0⟩
theorem check_spec {M : List (Option Cell)} {es : List D} (h : ∀ e ∈ es, goodE e) : Fw (f_check_edges [.d (.lst es)] M) fun r M' => r = .d .non ∧ M' = M := by
  unfold f_check_edges
  rw [fw_fn]
  unfold c_check_edges
  simp [-Prod.exists]
  refine wp_loop (fun j s => ∃ t u, s = ⟨[.w (.d (.lst es)), t, u], M, M.length⟩) ⟨_, _, rfl⟩ ?_ ?_
  · rintro j d s hd ⟨t, u, rfl⟩
    obtain ⟨e, rfl, he⟩ := enum_get hd
    refine ⟨_, rfl, ?_⟩
    simp [-Prod.exists]
    refine (edge_spec (h e he)).mono fun r M' ⟨e1, e2⟩ => ?_
    subst e1 e2
    simp [-Prod.exists]
  · rintro s ⟨t, u, rfl⟩
    simp [-Prod.exists]
/-- sources, targets -/
def srcs (es : List D) : List D := es.map fun e => match e with
  | .tup [s, _, _] => s
  | _ => .non
def tgts (es : List D) : List D := es.map fun e => match e with
  | .tup [_, _, t] => t
  | _ => .non
theorem ends_spec {M : List (Option Cell)} {es : List D} (h : ∀ e ∈ es, ∃ s l t, e = .tup [s, l, t]) (hl : es.length ≤ 1000) : Fw (f_ends_of [.d (.lst es)] M) fun r M' => r = .new (.lst ((srcs es ++ tgts es).map .d)) ∧ M' = M := by
  have big := big
  unfold f_ends_of
  rw [fw_fn]
  unfold c_ends_of
  simp only [wp_ret, wp_op, wp_evW]
  refine wp_compP (fun s => ∃ t u, s = ⟨[.w (.d (.lst es)), t, u, .no], M, M.length⟩) (fun _ => true) (fun e => match e with
    | .tup [s, _, _] => s
    | _ => .non) ?_
  simp [-Prod.exists]
  refine ⟨by omega, ?_, ?_⟩
  · rintro e he s0 u x rfl
    obtain ⟨s, l, t', rfl⟩ := h e he
    simp
  · rintro s0 u x rfl
    refine wp_compP (fun s => ∃ t u, s = ⟨[.w (.d (.lst es)), .no, t, u], M, M.length⟩) (fun _ => true) (fun e => match e with
      | .tup [_, _, t] => t
      | _ => .non) ?_
    simp [-Prod.exists]
    refine ⟨by omega, ?_, ?_⟩
    · rintro e he s0 u x rfl
      obtain ⟨s, l, t', rfl⟩ := h e he
      simp
    · rintro s0 u x rfl
      have f : es.filter (fun _ => true) = es := by simp
      rw [f]
      show ∃ x_1, opAdd (.lst (srcs es)) (.lst (tgts es)) = some x_1 ∧ _
      have o := opAdd_lst (a := srcs es) (b := tgts es) (by simp [srcs, tgts]; omega)
      have bl : (Cell.lst ((srcs es ++ tgts es).map W.d)).belowB M.length = true := by simp [Cell.belowB, W.belowB]
      rw [o]
      exact ⟨_, rfl, _, if_pos bl, by simp, by simp⟩
end L_k06

set_option maxHeartbeats 2000000
namespace L_k06
open PySem PyProof.Rows L2 He Pm
theorem addL1_mem {acc : List D} {x y : D} (h : y ∈ addL1 acc x) : y ∈ acc ∨ y = x := by
  unfold addL1 at h
  split at h
  · rcases List.mem_append.mp h with q | q
    · exact .inl q
    · exact .inr (by simpa using q)
  · exact .inl h
theorem addL1_len {acc : List D} {x : D} : (addL1 acc x).length ≤ acc.length + 1 := by
  unfold addL1
  split <;> simp
theorem getLast_atI {acc : List D} {z : D} (h : acc.getLast? = some z) : atI (acc.map W.d) (-1) = some (.d z) := by
  obtain ⟨ys, rfl⟩ := List.getLast?_eq_some_iff.mp h
  unfold atI ixN
  rw [if_neg (by decide), if_pos (by simp; omega)]
  have e : ((-1 : Int) + ((List.map W.d (ys ++ [z])).length : Nat)).toNat = (ys.map W.d).length := by simp; omega
  show (List.map W.d (ys ++ [z]))[((-1 : Int) + ((List.map W.d (ys ++ [z])).length : Nat)).toNat]? = _
  rw [e, List.map_append, List.getElem?_append_right (Nat.le_refl _)]
  simp
def EaInv (M : List (Option Cell)) (xs ys : List D) (j : Nat) (s : S) : Prop := ∃ (acc : List D) (t : Sl), s = ⟨[.w (.d (.lst xs)), .w (.loc M.length), t], M ++ [some (.lst (acc.map .d))], M.length⟩ ∧ acc = (ys.take j).foldl addL1 [] ∧ (∀ x ∈ acc, x ∈ ys) ∧ acc.length ≤ j
theorem each_spec {M : List (Option Cell)} {xs : List D} (k : okM 8 xs) (c : cmpAll xs = true) (hl : xs.length ≤ 1000) : Fw (f__law_each [.d (.lst xs)] M) fun r M' => r = .new (.lst ((each xs).map .d)) ∧ M' = M := by
  have big := big
  unfold f__law_each
  rw [fw_fn]
  unfold c__law_each
  simp [-Prod.exists, dSort_ok k c (by omega)]
  have ks : okM 8 (srtD xs) := fun x h => k x (mem_srt.mp h)
  have ls : (srtD xs).length = xs.length := (srtD_perm xs).length_eq
  refine wp_loop (EaInv M xs (srtD xs)) ⟨[], .no, rfl, rfl, by simp, by simp⟩ ?_ ?_
  · rintro j d s hd ⟨acc, t, rfl, ea, ha, la⟩
    refine ⟨_, rfl, ?_⟩
    have hd' : d ∈ srtD xs := List.mem_of_getElem? hd
    have hj : j < xs.length := by have := (List.getElem?_eq_some_iff.mp hd).1; omega
    have g2 : (M ++ [some (.lst (acc.map W.d))])[M.length]? = some (some (.lst (acc.map W.d))) := by rw [get_app2 rfl]; rfl
    have ka : okM 8 acc := fun x hx => ks x (ha x hx)
    have nil8 : okM 8 [] := fun x hx => by cases hx
    have tk : (srtD xs).take (j + 1) = (srtD xs).take j ++ [d] := by rw [List.take_add_one, hd]; rfl
    have e1 : addL1 acc d = ((srtD xs).take (j + 1)).foldl addL1 [] := by rw [tk, List.foldl_append, ← ea]; rfl
    have hs : acc.length < sizeLine := by omega
    have fin : EaInv M xs (srtD xs) (j + 1) ⟨[.w (.d (.lst xs)), .w (.loc M.length), .w (.d d)], M ++ [some (.lst ((addL1 acc d).map .d))], M.length⟩ :=
      ⟨_, _, rfl, e1, fun x hx => (addL1_mem hx).elim (ha x) (fun e => e ▸ hd'), Nat.le_trans addL1_len (by omega)⟩
    have e0 : dEqs acc [] = acc.isEmpty := by cases acc <;> rfl
    cases hacc : acc.getLast? with
    | none =>
      have hn : acc = [] := List.getLast?_eq_none_iff.mp hacc
      subst hn
      have e2 : addL1 [] d = [d] := if_pos (.inl rfl)
      rw [e2] at fin
      have g3 : (M ++ [some (.lst [])])[M.length]? = some (some (.lst (List.map W.d []))) := by rw [get_app2 rfl]; rfl
      have g4 : (M ++ [some (.lst [])])[M.length]? = some (some (.lst [])) := g3
      have z0 : 0 < sizeLine := by omega
      simpa [-Prod.exists, deepV_loc (xs := []) g3, opEq_lst nil8 nil8, dEqs, lstAt_loc g4, stAppend, z0, set_app2] using fin
    | some z =>
      have hz : z ∈ acc := List.mem_of_getLast? hacc
      have hne : acc.isEmpty = false := by cases acc with
        | nil => cases hz
        | cons _ _ => rfl
      by_cases hzd : z = d
      · have e2 : addL1 acc d = acc := if_neg (by
          rintro (q | q)
          · rw [q] at hz; cases hz
          · exact q (by rw [hacc, hzd]))
        rw [e2] at fin
        have e3 : dEq z d = true := (dEq_iff 8 8 z d (ka z hz) (ks d hd')).mpr hzd
        simpa [-Prod.exists, deepV_loc g2, opEq_lst ka nil8, e0, hne, ixM_loc g2, getLast_atI hacc, opEq_H (ka z hz) (ks d hd'), e3] using fin
      · have e2 : addL1 acc d = acc ++ [d] := if_pos (.inr (by rw [hacc]; intro q; exact hzd (Option.some.inj q)))
        rw [e2] at fin
        have e3 : dEq z d = false := by
          cases q : dEq z d with
          | false => rfl
          | true => exact absurd ((dEq_iff 8 8 z d (ka z hz) (ks d hd')).mp q) hzd
        simpa [-Prod.exists, deepV_loc g2, opEq_lst ka nil8, e0, hne, ixM_loc g2, getLast_atI hacc, opEq_H (ka z hz) (ks d hd'), e3, lstAt_loc g2, stAppend, set_app2, hs] using fin
  · rintro s ⟨acc, t, rfl, ea, ha, la⟩
    rw [List.take_of_length_le (Nat.le_refl _)] at ea
    have e : acc = each xs := by rw [ea]; exact dedup_each k
    have g2 : (M ++ [some (.lst (acc.map W.d))])[M.length]? = some (some (.lst (acc.map W.d))) := by rw [get_app2 rfl]; rfl
    have bl : (Cell.lst (acc.map W.d)).belowB M.length = true := by simp [Cell.belowB, W.belowB]
    subst e
    simp [-Prod.exists, retR, g2, bl]
end L_k06

set_option maxHeartbeats 2000000
namespace L_k06
open PySem PyProof.Rows L2 He Pm
@[simp] theorem dats_app {a b : List D} : dats (a.map W.d ++ b.map W.d) = some (a ++ b) := by rw [← List.map_append, dats_map]
@[simp] theorem dats_app3 {a b c : List D} : dats (a.map W.d ++ (b.map W.d ++ c.map W.d)) = some (a ++ (b ++ c)) := by rw [← List.map_append, dats_app]
@[simp] theorem seqW_lst {M : List (Option Cell)} {ds : List D} : seqW M (.d (.lst ds)) = some (ds.map .d) := rfl
/-- a graph's cell -/
def gC (ts ps : List D) : Cell := .ins 7 [("triples", .d (.lst ts)), ("points", .d (.lst ps))]
theorem putF_loc {st : S} {i c : Nat} {fs : List (Str × W)} {cs : List Nat} {f : Str} {x : D} (h : st.M[i]? = some (some (.ins c fs))) (hc : cs.contains c = true) (hl : fs.length < 1000) :
    Pm.putF st cs f (.d x) (.loc i) = some ⟨st.sl, st.M.set i (some (.ins c (putW f (.d x) fs))), st.b⟩ := by
  unfold Pm.putF
  dsimp only
  rw [h]
  dsimp only
  rw [if_pos (by rw [hc]; simp [hl])]
theorem fldOf_loc {M : List (Option Cell)} {i c : Nat} {fs : List (Str × W)} {cs : List Nat} {f : Str} (h : M[i]? = some (some (.ins c fs))) (hc : cs.contains c = true) : fldOf M cs f (.loc i) = (fs.lookup f).map W.res := by
  unfold fldOf
  dsimp only
  rw [h]
  dsimp only
  rw [if_pos hc]
theorem dSortSet_ok {l : List D} (k : setOk l = true) (c : cmpAll l = true) : dSortSet (.lst l) = some (.new (.lst ((each l).map .d))) := by
  simp only [dSortSet, seqD_lst, Option.bind_some, k, c, Bool.and_self, if_true]; rfl
def ptsOf (es ns : List D) : List D := each (srcs (each es) ++ tgts (each es) ++ ns)
theorem init_spec {M : List (Option Cell)} {es ns : List D} (he : ∀ e ∈ es, goodE e) (hn : ∀ x ∈ ns, ∃ w, x = .str w ∧ goodN w) (le : es.length ≤ 1000) (ln : ns.length ≤ 1000)
    (s1 : setOk es = true) (c1 : cmpAll es = true) (s2 : setOk (srcs (each es) ++ tgts (each es) ++ ns) = true) (c2 : cmpAll (srcs (each es) ++ tgts (each es) ++ ns) = true) :
    Fw (mkF 7 f_Graph_QinitQ (fun x => gApp (x :: [.d (.lst es)]) [.d (.lst ns)]) [] M) fun r M' => r = .new (gC (each es) (ptsOf es ns)) ∧ M' = M := by
  have big := big
  rw [fw_mk]
  show Fw (f_Graph_QinitQ [.loc M.length, .d (.lst es), .d (.lst ns)] (M ++ [some (.ins 7 [])])) _
  unfold f_Graph_QinitQ
  rw [fw_fn]
  unfold c_Graph_QinitQ
  rw [wp_seq]
  simp only [wp_expr, wp_callK, wp_eaCons, wp_eaNil, wp_evW]
  simp [-Prod.exists]
  refine (check_spec he).mono fun r M' ⟨e1, e2⟩ => ?_
  subst e1 e2
  refine wp_loop (fun j s => ∃ t, s = ⟨[.w (.loc M.length), .w (.d (.lst es)), .w (.d (.lst ns)), t], M ++ [some (.ins 7 [])], M.length + 1⟩) ⟨_, rfl⟩ ?_ ?_
  · rintro j d s hd ⟨t, rfl⟩
    obtain ⟨w, rfl, hw⟩ := hn d (List.mem_of_getElem? hd)
    refine ⟨_, rfl, ?_⟩
    simp [-Prod.exists]
    refine (node_spec hw).mono fun r M' ⟨e1, e2⟩ => ?_
    subst e1 e2
    simp [-Prod.exists]
  · rintro s ⟨t, rfl⟩
    have q1 : (M ++ [some (Cell.ins 7 [])])[M.length]? = some (some (.ins 7 [])) := by rw [get_app2 rfl]; rfl
    have k0 : okM 8 es := okM_iff.mp (by simp only [setOk, Bool.and_eq_true] at s1; exact s1.1.1)
    have he' : ∀ e ∈ each es, ∃ s l t, e = .tup [s, l, t] := fun e h => by
      obtain ⟨s, l, t, rfl, _⟩ := he e ((mem_each k0).mp h)
      exact ⟨_, _, _, rfl⟩
    have hle : (each es).length ≤ 1000 := by
      have : (each es).length ≤ es.length := nodup_len (each_nd k0) fun x hx => (mem_each k0).mp hx
      omega
    simp [-Prod.exists, dSortSet_ok s1 c1]
    rw [putF_loc (c := 7) (fs := []) (by simpa using q1) (by decide) (by decide)]
    simp [-Prod.exists, putW]
    have q2 : (M ++ [some (Cell.ins 7 [("triples", W.d (.lst (each es)))])])[M.length]? = some (some (.ins 7 [("triples", W.d (.lst (each es)))])) := by rw [get_app2 rfl]; rfl
    rw [fldOf_loc q2 (by decide)]
    simp [-Prod.exists, List.lookup]
    refine (ends_spec he' hle).mono fun r M' ⟨e1, e2⟩ => ?_
    subst e1 e2
    have lz : (srcs (each es)).length + (tgts (each es)).length + ns.length ≤ sizeLine := by
      simp only [srcs, tgts, List.length_map]; omega
    have d2 := dSortSet_ok s2 c2
    rw [List.append_assoc] at d2
    simp [-Prod.exists, lz, d2]
    rw [putF_loc (c := 7) (fs := [("triples", W.d (.lst (each es)))]) (by simpa using q2) (by decide) (by simp)]
    have q3 : ∀ c : Cell, (M ++ [some c])[M.length]? = some (some c) := fun c => by rw [get_app2 rfl]; rfl
    have ne : (Str.ofString "triples" = Str.ofString "points") = False := eq_false (by decide +kernel)
    have tk : ∀ c : Cell, List.take M.length (List.take (M.length + 1) (M ++ [some c])) = M := fun c => by
      rw [List.take_take, Nat.min_eq_left (Nat.le_succ _)]; simp
    simp [-Prod.exists, putW, set_app2, Cell.belowB, W.belowB, ne, tk, gC, ptsOf]
end L_k06

set_option maxHeartbeats 2000000
namespace L_k06
open PySem PyProof.Rows L2 He Pm
/-- a graph as it stands: a cell or data -/
def isG (M : List (Option Cell)) (ts ps : List D) : W → Prop
  | .loc i => M[i]? = some (some (gC ts ps))
  | .d x => x = .obj 7 [("triples", .lst ts), ("points", .lst ps)]
theorem isG.tri {M : List (Option Cell)} {ts ps : List D} {w : W} (h : isG M ts ps w) : fldOf M [7] "triples" w = some (.d (.lst ts)) := by
  cases w with
  | loc i => rw [fldOf_loc h (by decide)]; rfl
  | d x => cases h; rfl
theorem isG.pts {M : List (Option Cell)} {ts ps : List D} {w : W} (h : isG M ts ps w) : fldOf M [7] "points" w = some (.d (.lst ps)) := by
  cases w with
  | loc i => rw [fldOf_loc h (by decide)]; rfl
  | d x => cases h; rfl
/-- the slot of an operand -/
theorem wp_slot {w : W} {i : Nat} {sl : List Sl} {M : List (Option Cell)} {b : Nat} {Q : Res → S → Prop} (h : sl[i]? = some (.w w)) : Wp (eVar i ⟨sl, M, b⟩) Q ↔ Q w.res ⟨sl, M, b⟩ := by
  rw [wp_var, h, slR_w]; simp
theorem wp_resW {w : W} {st : S} {Q : W → S → Prop} : Wp (toW w.res st) Q ↔ Q w st := by cases w <;> rfl
end L_k06

set_option maxHeartbeats 2000000
namespace L_k06
open PySem PyProof.Rows L2 He Pm
theorem isG.tg {M : List (Option Cell)} {ts ps : List D} {w : W} (h : isG M ts ps w) : tgW M w = some (.own 7) := by
  cases w with
  | loc i => unfold tgW; dsimp only; rw [show M[i]? = some (some (gC ts ps)) from h]; rfl
  | d x => cases h; rfl
theorem isG.cls {M : List (Option Cell)} {ts ps : List D} {w : W} (h : isG M ts ps w) : isCls M 7 w = true := by
  cases w with
  | loc i => unfold isCls; dsimp only; rw [show M[i]? = some (some (gC ts ps)) from h]; rfl
  | d x => cases h; rfl
theorem isG_obj {M : List (Option Cell)} {ts ps : List D} : isG M ts ps (.d (.obj 7 [("triples", .lst ts), ("points", .lst ps)])) := rfl
theorem isG.ins {M : List (Option Cell)} {ts ps : List D} {w : W} (h : isG M ts ps w) {nm : Str} (h1 : (nm == "triples") = false) (h2 : (nm == "points") = false) : isInsB M 7 nm w = true := by
  cases w with
  | loc i =>
    unfold isInsB
    dsimp only
    rw [show M[i]? = some (some (gC ts ps)) from h]
    simp [gC, List.lookup, h1, h2]
  | d x =>
    cases h
    unfold isInsB
    simp [List.lookup, h1, h2]
theorem isG.iE {M : List (Option Cell)} {ts ps : List D} {w : W} (h : isG M ts ps w) : isInsB M 7 "edges" w = true := h.ins (by decide +kernel) (by decide +kernel)
theorem isG.iN {M : List (Option Cell)} {ts ps : List D} {w : W} (h : isG M ts ps w) : isInsB M 7 "nodes" w = true := h.ins (by decide +kernel) (by decide +kernel)
theorem isG.iP {M : List (Option Cell)} {ts ps : List D} {w : W} (h : isG M ts ps w) : isInsB M 7 "put" w = true := h.ins (by decide +kernel) (by decide +kernel)
@[simp] theorem dats_snoc {a : List D} {x : D} : dats (a.map W.d ++ [W.d x]) = some (a ++ [x]) := by
  rw [show [W.d x] = [x].map W.d from rfl, dats_app]
@[simp] theorem dats_snoc2 {a : List D} {x y : D} : dats (a.map W.d ++ [W.d x, W.d y]) = some (a ++ [x, y]) := by
  rw [show [W.d x, W.d y] = [x, y].map W.d from rfl, dats_app]
def srcE : D → D
  | .tup [s, _, _] => s
  | _ => .non
def tgtE : D → D
  | .tup [_, _, t] => t
  | _ => .non
theorem goodE.ok {e : D} (h : goodE e) (n : Nat) : okH (n + 1) e = true := by
  obtain ⟨s, l, t, rfl, h1, h2, h3⟩ := h
  have k : ∀ {w : Str}, (∀ c ∈ w.cps.toList, c ∈ ("abcdefghijklmnopqrstuvwxyz0123456789" : Str).cps.toList) → PyData.strOk w = true := fun q => strOk_of q (by decide +kernel)
  have k2 : ∀ {w : Str}, (∀ c ∈ w.cps.toList, c ∈ ("abcdefghijklmnopqrstuvwxyz" : Str).cps.toList) → PyData.strOk w = true := fun q => strOk_of q (by decide +kernel)
  simp only [okH, okHs, k h1.2.2, k2 h2.2.2, k h3.2.2, Bool.and_self]
theorem goodE.okM {ts : List D} (h : ∀ e ∈ ts, goodE e) : okM 8 ts := fun x hx => (h x hx).ok 7
theorem cmp_edges {l : List D} (h : ∀ e ∈ l, goodE e) : cmpAll l = true := by
  unfold cmpAll
  rw [List.all_eq_true]
  intro a ha
  rw [List.all_eq_true]
  intro b hb
  obtain ⟨s, l', t, rfl, _⟩ := h a ha
  obtain ⟨s2, l2, t2, rfl, _⟩ := h b hb
  simp [cmpb, cmpbs]
end L_k06

set_option maxHeartbeats 2000000
namespace L_k06
open PySem PyProof.Rows L2 He Pm
theorem ddD_len : ∀ l : List D, (ddD l).length ≤ l.length
  | [] => by simp [ddD]
  | x :: l => by
    have := ddD_len l
    unfold ddD
    split <;> simp <;> omega
theorem edges_set {l : List D} (h : ∀ e ∈ l, goodE e) (hl : l.length ≤ 62) : setOk l = true := by
  have k := goodE.okM h
  have t : allTup l = true := by
    unfold allTup
    rw [List.all_eq_true]
    intro d hd
    obtain ⟨s, l', t, rfl, _⟩ := h d hd
    rfl
  have := ddD_len l
  simp only [setOk, okM_iff.mpr k, t, Bool.or_true, Bool.and_self, Bool.true_and, decide_eq_true_eq]
  omega
def good (x : D) : Prop := ∃ w, x = .str w ∧ goodN w
theorem words_ok {l : List D} (h : ∀ x ∈ l, good x) : okM 8 l := fun x hx => by
  obtain ⟨w, rfl, g⟩ := h x hx
  simp only [okH]
  exact strOk_of g.2.2 (by decide +kernel)
theorem words_cmp {l : List D} (h : ∀ x ∈ l, good x) : cmpAll l = true := cmp_words fun x hx => let ⟨w, e, _⟩ := h x hx; ⟨w, e⟩
theorem words_set {l q : List D} (h : ∀ x ∈ q, good x) (s : ∀ x ∈ l, x ∈ q) (hl : q.length ≤ 62) : setOk l = true := by
  have k := words_ok fun x hx => h x (s x hx)
  have t : l.all isSc = true := by
    rw [List.all_eq_true]
    intro d hd
    obtain ⟨w, rfl, _⟩ := h d (s d hd)
    rfl
  have := nodup_len (ddD_nd (okM_iff.mpr k)).1 fun x hx => s x (ddD_sub hx)
  simp only [setOk, okM_iff.mpr k, t, Bool.true_or, Bool.and_self, Bool.true_and, decide_eq_true_eq]
  omega
/-- edges over good names -/
structure GG (ps ts : List D) : Prop where
  hq : ∀ x ∈ ps, good x
  lq : ps.length ≤ 30
  he : ∀ e ∈ ts, ∃ s l t, e = .tup [.str s, .str l, .str t] ∧ goodL l ∧ D.str s ∈ ps ∧ D.str t ∈ ps
  lt : ts.length ≤ 60
section
variable {ps ts : List D}
theorem GG.g (h : GG ps ts) : ∀ e ∈ ts, goodE e := fun e he => by
  obtain ⟨s, l, t, rfl, h1, h2, h3⟩ := h.he e he
  obtain ⟨w, e, g⟩ := h.hq _ h2
  cases e
  obtain ⟨w', e', g'⟩ := h.hq _ h3
  cases e'
  exact ⟨_, l, _, rfl, g, h1, g'⟩
theorem GG.ok (h : GG ps ts) : okM 8 ts := goodE.okM h.g
theorem GG.okP (h : GG ps ts) : okM 8 ps := words_ok h.hq
theorem GG.set (h : GG ps ts) : setOk ts = true := edges_set h.g (by have := h.lt; omega)
theorem GG.cmp (h : GG ps ts) : cmpAll ts = true := cmp_edges h.g
theorem GG.sub (h : GG ps ts) {us : List D} (s : ∀ x ∈ us, x ∈ ts) (l : us.length ≤ 60) : GG ps us := ⟨h.hq, h.lq, fun e he => h.he e (s e he), l⟩
theorem GG.each (h : GG ps ts) : GG ps (each ts) := h.sub (fun x hx => (mem_each h.ok).mp hx) (by
  have := nodup_len (each_nd h.ok) fun x hx => (mem_each h.ok).mp hx
  have := h.lt
  omega)
theorem mem_srcs {es : List D} (h : GG ps es) {x : D} (hx : x ∈ srcs es) : x ∈ ps := by
  obtain ⟨e, he, rfl⟩ := List.mem_map.mp hx
  obtain ⟨s, l, t, rfl, h1, h2, h3⟩ := h.he e he
  exact h2
theorem mem_tgts {es : List D} (h : GG ps es) {x : D} (hx : x ∈ tgts es) : x ∈ ps := by
  obtain ⟨e, he, rfl⟩ := List.mem_map.mp hx
  obtain ⟨s, l, t, rfl, h1, h2, h3⟩ := h.he e he
  exact h3
theorem ends_sub {es : List D} (h : GG ps es) : ∀ x ∈ srcs es ++ tgts es ++ ps, x ∈ ps := fun x hx => by
  rcases List.mem_append.mp hx with q | q
  · rcases List.mem_append.mp q with q | q
    · exact mem_srcs h q
    · exact mem_tgts h q
  · exact q
/-- the nodes: each once, in order -/
structure Ord (ps : List D) : Prop where
  nd : ps.Nodup
  st : ps.Pairwise fun a b => leD a b = true
theorem ord_each {l : List D} (k : okM 8 l) : Ord (each l) := ⟨each_nd k, each_srt⟩
theorem ord_id {l : List D} (k : okM 8 l) (o : Ord l) : each l = l := each_id k o.nd o.st
theorem pts_eq (h : GG ps ts) (o : Ord ps) : ptsOf ts ps = ps := by
  have s := ends_sub h.each
  unfold ptsOf
  rw [each_congr (words_ok fun x hx => h.hq x (s x hx)) h.okP fun x => ⟨s x, fun q => List.mem_append_right _ q⟩]
  exact ord_id h.okP o
theorem init_g {M : List (Option Cell)} (h : GG ps ts) (o : Ord ps) : Fw (mkF 7 f_Graph_QinitQ (fun x => gApp (x :: [.d (.lst ts)]) [.d (.lst ps)]) [] M) fun r M' => r = .new (gC (each ts) ps) ∧ M' = M := by
  have l1 := h.lt
  have l2 := h.lq
  have s := ends_sub h.each
  refine (init_spec h.g h.hq (by omega) (by omega) h.set h.cmp (words_set h.hq s (by omega)) (words_cmp fun x hx => h.hq x (s x hx))).mono fun r M' ⟨e1, e2⟩ => ⟨?_, e2⟩
  rw [e1, pts_eq h o]
/-! items -/
theorem dC_refl (a : D) : dC a a = .eq := by
  have s := dC_s a a
  cases h : dC a a <;> rw [h] at s <;> first | rfl | cases s
theorem dCs_refl (a : List D) : dCs a a = .eq := by have := dC_refl (.tup a); simpa only [dC] using this
theorem dEq_N {a b : D} (ka : okH 8 a = true) (kb : okH 8 b = true) : dEq a b = true ↔ a = b := dEq_iff 8 8 a b ka kb
end
section
variable {ps ts ts' ps' : List D} {e : D}
theorem mem_snoc2 {l : List D} {a b x : D} : x ∈ l ++ [a, b] ↔ x ∈ l ∨ x = a ∨ x = b := by simp
theorem new_all (h : ∀ x ∈ ps, good x) (g : goodE e) : ∀ x ∈ ps ++ [srcE e, tgtE e], good x := fun x hx => by
  obtain ⟨s, l, t, rfl, h1, h2, h3⟩ := g
  rcases mem_snoc2.mp hx with q | rfl | rfl
  · exact h x q
  · exact ⟨s, rfl, h1⟩
  · exact ⟨t, rfl, h3⟩
end
end L_k06

set_option maxHeartbeats 2000000
set_option exponentiation.threshold 3000
namespace L_k06
open PySem PyProof.Rows L2 He Pm
def LET : Str := "abcdefghijklmnopqrstuvwxyz"
def NOD : Str := "abcdefghijklmnopqrstuvwxyz0123456789"
/-- one to eight of these signs -/
def wordB (sg w : Str) : Bool := decide (0 < w.length) && (decide (w.length ≤ 8) && w.cps.toList.all fun c => inStr ⟨#[c]⟩ sg)
def nodB : D → Bool
  | .str w => wordB NOD w
  | _ => false
def labB : D → Bool
  | .str w => wordB LET w
  | _ => false
def edgB : D → Bool
  | .tup [a, b, c] => nodB a && (labB b && nodB c)
  | _ => false
theorem wordB_iff {sg w : Str} : wordB sg w = true ↔ 0 < w.length ∧ w.length ≤ 8 ∧ ∀ c ∈ w.cps.toList, c ∈ sg.cps.toList := by
  simp only [wordB, Bool.and_eq_true, decide_eq_true_eq, List.all_eq_true]
  constructor
  · rintro ⟨h1, h2, h3⟩
    exact ⟨h1, h2, fun c hc => by simpa [inStr_sign] using h3 c hc⟩
  · rintro ⟨h1, h2, h3⟩
    exact ⟨h1, h2, fun c hc => by simpa [inStr_sign] using h3 c hc⟩
theorem nodB_iff {w : Str} : nodB (.str w) = true ↔ goodN w := wordB_iff
theorem labB_iff {w : Str} : labB (.str w) = true ↔ goodL w := wordB_iff
theorem edgB_good {e : D} (h : goodE e) : edgB e = true := by
  obtain ⟨s, l, t, rfl, h1, h2, h3⟩ := h
  simp only [edgB, nodB_iff.mpr h1, labB_iff.mpr h2, nodB_iff.mpr h3, Bool.and_self]
/-- what may be asked whether it is a name -/
inductive fine : D → Prop
  | non : fine .non
  | int {i : Int} : fine (.int i)
  | bl {b : Bool} : fine (.bl b)
  | str {w : Str} : w.length ≤ 1000 → fine (.str w)
  | lst {xs : List D} : fine (.lst xs)
  | tup {xs : List D} : fine (.tup xs)
section
variable {M : List (Option Cell)} {x : D} {w : Str}
theorem blsD_map {α : Type} {f : α → Bool} {l : List α} : blsD (l.map fun x => .bl (f x)) = some (l.map f) := by
  induction l with
  | nil => rfl
  | cons x r ih => simp only [List.map_cons, blsD, ih]; rfl
theorem dAll_mapG {α : Type} {f : α → Bool} {l : List α} : dAll (.lst (l.map fun x => .bl (f x))) = some (.d (.bl (l.all f))) := by
  unfold dAll
  simp only [lstD_lst, Option.bind_some, blsD_map, Option.map_some, List.all_map]
  rfl
@[simp] theorem bIsi_strS {tab : List (Tg × Tg × Bool)} {w : Str} : bIsi tab M [.d (.str w), .d (.ty "str")] = some (.d (.bl true)) := rfl
theorem node_str (hl : w.length ≤ 1000) : Fw (f_is_node [.d (.str w)] M) fun r M' => r = .d (.bl (nodB (.str w))) ∧ M' = M := by
  have big := big
  unfold f_is_node
  rw [fw_fn]
  unfold c_is_node
  have hl' : w.length ≤ sizeLine := by omega
  have sz : w.cps.size ≤ sizeLine := hl'
  have l1 : ("abcdefghijklmnopqrstuvwxyz" : Str).length = 26 := by decide +kernel
  have l2 : ("0123456789" : Str).length = 10 := by decide +kernel
  have ad : opAdd (.str "abcdefghijklmnopqrstuvwxyz") (.str "0123456789") = some (.d (.str NOD)) := by
    rw [opAdd_str (by omega), cat_eq]; rfl
  by_cases h0 : 0 < w.length
  · by_cases h1 : w.length ≤ 8
    · have key : Wp (eComp (iSrc (eVar 0)) (kName 1) [1] (fYes) (evW (eOpE (opIn false) (eVar 1) (eOp opAdd (eC (.str "abcdefghijklmnopqrstuvwxyz")) (eC (.str "0123456789"))))) ⟨[.w (.d (.str w)), .no], M, M.length⟩) fun r s => r = .new (.lst ((w.cps.toList.map fun c => D.bl (inStr ⟨#[c]⟩ NOD)).map .d)) ∧ s.M = M := by
        refine wp_compP (fun s => ∃ t, s = ⟨[.w (.d (.str w)), t], M, M.length⟩) (fun _ => true) (fun d => match d with
          | .str y => .bl (inStr y NOD)
          | _ => .non) ?_
        simp [-Prod.exists, sz, ad]
        rw [List.filter_eq_self.mpr (by simp)]
        try simp
      have da : dAll (.lst (w.cps.toList.map fun c => D.bl (inStr ⟨#[c]⟩ NOD))) = some (.d (.bl (nodB (.str w)))) := by
        rw [dAll_mapG]
        simp [nodB, wordB, h0, h1]
      generalize nodB (.str w) = v at *
      simp [-Prod.exists, dLen_str hl', h0, h1]
      refine .inr ⟨by omega, ?_⟩
      refine key.mono fun r s ⟨e1, e2⟩ => ?_
      subst e1
      simp [-Prod.exists, -List.map_map, e2, da]
    · have e : nodB (.str w) = false := by simp [nodB, wordB, h1]
      simp [-Prod.exists, dLen_str hl', h0, h1, e]
      omega
  · have e : nodB (.str w) = false := by simp [nodB, wordB, h0]
    simp [-Prod.exists, dLen_str hl', h0, e]
theorem label_str (hl : w.length ≤ 1000) : Fw (f_is_label [.d (.str w)] M) fun r M' => r = .d (.bl (labB (.str w))) ∧ M' = M := by
  have big := big
  unfold f_is_label
  rw [fw_fn]
  unfold c_is_label
  have hl' : w.length ≤ sizeLine := by omega
  have sz : w.cps.size ≤ sizeLine := hl'
  by_cases h0 : 0 < w.length
  · by_cases h1 : w.length ≤ 8
    · have key : Wp (eComp (iSrc (eVar 0)) (kName 1) [1] (fYes) (evW (eOpE (opIn false) (eVar 1) (eC (.str "abcdefghijklmnopqrstuvwxyz")))) ⟨[.w (.d (.str w)), .no], M, M.length⟩) fun r s => r = .new (.lst ((w.cps.toList.map fun c => D.bl (inStr ⟨#[c]⟩ LET)).map .d)) ∧ s.M = M := by
        refine wp_compP (fun s => ∃ t, s = ⟨[.w (.d (.str w)), t], M, M.length⟩) (fun _ => true) (fun d => match d with
          | .str y => .bl (inStr y LET)
          | _ => .non) ?_
        simp [-Prod.exists, sz]
        refine ⟨fun a ha => by
          show (inStr ⟨#[a]⟩ LET = false ∧ inStr ⟨#[a]⟩ LET = false) ∨ (inStr ⟨#[a]⟩ LET = true ∧ inStr ⟨#[a]⟩ LET = true)
          cases inStr ⟨#[a]⟩ LET <;> simp, ?_⟩
        rw [List.filter_eq_self.mpr (by simp)]
        simp
      have da : dAll (.lst (w.cps.toList.map fun c => D.bl (inStr ⟨#[c]⟩ LET))) = some (.d (.bl (labB (.str w)))) := by
        rw [dAll_mapG]
        simp [labB, wordB, h0, h1]
      generalize labB (.str w) = v at *
      simp [-Prod.exists, dLen_str hl', h0, h1]
      refine .inr ⟨by omega, ?_⟩
      refine key.mono fun r s ⟨e1, e2⟩ => ?_
      subst e1
      simp [-Prod.exists, -List.map_map, e2, da]
    · have e : labB (.str w) = false := by simp [labB, wordB, h1]
      simp [-Prod.exists, dLen_str hl', h0, h1, e]
      omega
  · have e : labB (.str w) = false := by simp [labB, wordB, h0]
    simp [-Prod.exists, dLen_str hl', h0, e]
theorem isi_other (h : fine x) (ns : ∀ w, x ≠ .str w) : bIsi isiTab M [.d x, .d (.ty "str")] = some (.d (.bl false)) := by
  cases h <;> first | rfl | exact absurd rfl (ns _)
theorem node_any (h : fine x) : Fw (f_is_node [.d x] M) fun r M' => r = .d (.bl (nodB x)) ∧ M' = M := by
  have other : (∀ w, x ≠ .str w) → nodB x = false → Fw (f_is_node [.d x] M) fun r M' => r = .d (.bl (nodB x)) ∧ M' = M := fun ns e => by
    have bi := isi_other (M := M) h ns
    unfold f_is_node
    rw [fw_fn]
    unfold c_is_node
    simp [-Prod.exists, bi, e]
  cases h with
  | str hl => exact node_str hl
  | _ => exact other (fun w e => by cases e) rfl
theorem label_any (h : fine x) : Fw (f_is_label [.d x] M) fun r M' => r = .d (.bl (labB x)) ∧ M' = M := by
  have other : (∀ w, x ≠ .str w) → labB x = false → Fw (f_is_label [.d x] M) fun r M' => r = .d (.bl (labB x)) ∧ M' = M := fun ns e => by
    have bi := isi_other (M := M) h ns
    unfold f_is_label
    rw [fw_fn]
    unfold c_is_label
    simp [-Prod.exists, bi, e]
  cases h with
  | str hl => exact label_str hl
  | _ => exact other (fun w e => by cases e) rfl
/-- what may be asked whether it is an edge -/
def fineE : D → Prop
  | .tup xs => ∀ x ∈ xs, fine x
  | x => fine x
theorem edge_any (h : fineE x) : Fw (f_is_edge [.d x] M) fun r M' => r = .d (.bl (edgB x)) ∧ M' = M := by
  have other : bIsi isiTab M [.d x, .d (.ty "tuple")] = some (.d (.bl false)) → edgB x = false → Fw (f_is_edge [.d x] M) fun r M' => r = .d (.bl (edgB x)) ∧ M' = M := fun bi e => by
    unfold f_is_edge
    rw [fw_fn]
    unfold c_is_edge
    simp [-Prod.exists, bi, e]
  have tup : ∀ xs, x = .tup xs → Fw (f_is_edge [.d x] M) fun r M' => r = .d (.bl (edgB x)) ∧ M' = M := fun xs e => by
    subst e
    have hx : ∀ x ∈ xs, fine x := h
    have bi : bIsi isiTab M [.d (.tup xs), .d (.ty "tuple")] = some (.d (.bl true)) := rfl
    by_cases h3 : xs.length = 3
    · obtain ⟨a, b, c, rfl⟩ : ∃ a b c, xs = [a, b, c] := by
        match xs, h3 with
        | [a, b, c], _ => exact ⟨a, b, c, rfl⟩
      have fa := hx a (by simp)
      have fb := hx b (by simp)
      have fc := hx c (by simp)
      unfold f_is_edge
      rw [fw_fn]
      unfold c_is_edge
      generalize hn : f_is_node = fn
      generalize hl : f_is_label = fl
      simp [-Prod.exists, bi, atI, ixN]
      subst hn
      refine (node_any fa).mono fun r M' ⟨e1, e2⟩ => ?_
      subst e1 e2
      cases ea : nodB a with
      | false => simp [-Prod.exists, edgB, ea]
      | true =>
        generalize hn : f_is_node = fn
        simp [-Prod.exists, atI, ixN]
        subst hl
        refine (label_any fb).mono fun r M' ⟨e1, e2⟩ => ?_
        subst e1 e2
        cases eb : labB b with
        | false => simp [-Prod.exists, edgB, ea, eb]
        | true =>
          simp [-Prod.exists, atI, ixN]
          subst hn
          refine (node_any fc).mono fun r M' ⟨e1, e2⟩ => ?_
          subst e1 e2
          simp [-Prod.exists, edgB, ea, eb]
    · have e : edgB (.tup xs) = false := by
        match xs, h3 with
        | [], _ => rfl
        | [_], _ => rfl
        | [_, _], _ => rfl
        | _ :: _ :: _ :: _ :: _, _ => rfl
      have h4 : ((xs.length : Int) == 3) = false := by
        rw [beq_eq_false_iff_ne]; omega
      unfold f_is_edge
      rw [fw_fn]
      unfold c_is_edge
      simp [-Prod.exists, bi, h3, h4, e]
  cases x with
  | tup xs => exact tup xs rfl
  | non => exact other rfl rfl
  | bl b => exact other rfl rfl
  | int i => exact other rfl rfl
  | str w => exact other rfl rfl
  | lst xs => exact other rfl rfl
  | _ => cases h
end
end L_k06

set_option maxHeartbeats 2000000
set_option exponentiation.threshold 3000
namespace L_k06
open PySem PyProof.Rows L2 He Pm
/-! ### each once -/
theorem ddD_subl : ∀ l : List D, (ddD l).Sublist l
  | [] => .slnil
  | x :: xs => by
    unfold ddD
    split
    · exact (ddD_subl xs).cons x
    · exact (ddD_subl xs).cons₂ x
theorem ddD_id : ∀ {l : List D}, okM 8 l → l.Nodup → ddD l = l
  | [], _, _ => rfl
  | x :: xs, k, nd => by
    have kx := k x List.mem_cons_self
    have ks : okM 8 xs := fun y hy => k y (List.mem_cons_of_mem _ hy)
    obtain ⟨n1, n2⟩ := List.nodup_cons.mp nd
    have ih := ddD_id ks n2
    unfold ddD
    rw [ih]
    have e : xs.any (dEq x) = false := by
      cases q : xs.any (dEq x) with
      | false => rfl
      | true =>
        obtain ⟨y, hy, e⟩ := List.any_eq_true.mp q
        have := (dEq_N kx (ks y hy)).mp e
        exact absurd (this ▸ hy) n1
    rw [e]
    simp
theorem ddD_nodup {l : List D} (k : okM 8 l) : (ddD l).length = l.length ↔ l.Nodup := by
  constructor
  · intro h
    have e := (ddD_subl l).eq_of_length h
    have := (ddD_nd (okM_iff.mpr k)).1
    rwa [e] at this
  · intro h; rw [ddD_id k h]
/-! ### ways -/
def ChainP (es : List D) : D → List D → D → Prop
  | n, [], f => n = f
  | n, e :: r, f => e ∈ es ∧ srcE e = n ∧ ChainP es (tgtE e) r f
def IsW (es : List D) (s f : D) (rk : Int) (xs : List D) : Prop := ChainP es s xs f ∧ (rk = 1 → xs.Nodup) ∧ (rk = 2 → (s :: xs.map tgtE).Nodup)
/-- the last one of s and the ends -/
def curN (s : D) (xs : List D) : D := (xs.map tgtE).getLast?.getD s
theorem cur_nil {s : D} : curN s [] = s := rfl
theorem cur_snoc {s e : D} {xs : List D} : curN s (xs ++ [e]) = tgtE e := by simp [curN]
theorem edgB_goodE {x : D} (h : edgB x = true) : goodE x := by
  match x, h with
  | .tup [a, b, c], h =>
    simp only [edgB, Bool.and_eq_true] at h
    obtain ⟨h1, h2, h3⟩ := h
    match a, b, c, h1, h2, h3 with
    | .str a, .str b, .str c, h1, h2, h3 => exact ⟨a, b, c, rfl, nodB_iff.mp h1, labB_iff.mp h2, nodB_iff.mp h3⟩
def inB (x : D) (R : List D) : Bool := R.any fun y => dEq y x
theorem opIn_any {x : D} {l : List D} {neg : Bool} (kx : okD 60 x = true) (kl : okDs 60 l = true) : opIn neg x (.lst l) = some (xor neg (inB x l)) := by
  cases x <;> simp only [opIn, kx, kl, Bool.and_self, if_true, inB]
/-- what a value may hold -/
structure El (x : D) : Prop where
  fi : fineE x
  ok : okD 60 x = true
theorem dEq_str {w : Str} {a : D} (h : dEq (.str w) a = true) : a = .str w := by
  cases a with
  | str y =>
    have e : (w == y) = true := h
    rw [beq_iff_eq.mp e]
  | _ => exact nomatch (show (false : Bool) = true from h)
theorem dEq_refl3 {a b c : Str} : dEq (.tup [.str a, .str b, .str c]) (.tup [.str a, .str b, .str c]) = true := by
  show ((a == a) && ((b == b) && ((c == c) && true))) = true
  simp
theorem dEq_goodE {y x : D} (g : goodE y) : dEq y x = true ↔ y = x := by
  obtain ⟨s, l, t, rfl, h1, h2, h3⟩ := g
  constructor
  · intro h
    cases x with
    | tup ys =>
      match ys, h with
      | [a, b, c], h =>
        have h' : (dEq (.str s) a && (dEq (.str l) b && (dEq (.str t) c && true))) = true := h
        obtain ⟨q1, h'⟩ := Bool.and_eq_true_iff.mp h'
        obtain ⟨q2, h'⟩ := Bool.and_eq_true_iff.mp h'
        obtain ⟨q3, _⟩ := Bool.and_eq_true_iff.mp h'
        rw [dEq_str q1, dEq_str q2, dEq_str q3]
      | [], h => exact nomatch (show (false : Bool) = true from h)
      | [a], h => exact absurd (show (dEq (.str s) a && false) = true from h) (by simp)
      | [a, b], h => exact absurd (show (dEq (.str s) a && (dEq (.str l) b && false)) = true from h) (by simp)
      | a :: b :: c :: d :: r, h => exact absurd (show (dEq (.str s) a && (dEq (.str l) b && (dEq (.str t) c && false))) = true from h) (by simp)
    | _ => exact nomatch (show (false : Bool) = true from h)
  · rintro rfl
    exact dEq_refl3
theorem inB_edges {x : D} {es : List D} (g : ∀ e ∈ es, goodE e) : inB x es = true ↔ x ∈ es := by
  unfold inB
  rw [List.any_eq_true]
  constructor
  · rintro ⟨y, hy, e⟩; rw [← (dEq_goodE (g y hy)).mp e]; exact hy
  · intro h; exact ⟨x, h, (dEq_goodE (g x h)).mpr rfl⟩
theorem okDs_edges {es : List D} (g : ∀ e ∈ es, goodE e) : okDs 60 es = true := okDs_H (okHs_mono es (by decide) (okM_iff.mpr (goodE.okM g)))
section
variable {M : List (Option Cell)} {ts ps : List D} {w : W} {x : D}
theorem contains_m (h : isG M ts ps w) (g : ∀ e ∈ ts, goodE e) (hx : El x) : Fw (f_Graph_QcontainsQ [w, .d x] M) fun r M' => r = .d (.bl (inB x ts)) ∧ M' = M := by
  unfold f_Graph_QcontainsQ
  rw [fw_fn]
  unfold c_Graph_QcontainsQ
  generalize hf : f_is_edge = fe
  simp [-Prod.exists]
  subst hf
  refine (edge_any hx.fi).mono fun r M' ⟨e1, e2⟩ => ?_
  subst e1 e2
  cases q : edgB x with
  | false =>
    have e : inB x ts = false := by
      cases q2 : inB x ts with
      | false => rfl
      | true => rw [edgB_good (g x ((inB_edges g).mp q2))] at q; cases q
    simp [-Prod.exists, e]
  | true =>
    have e := opIn_any (neg := false) hx.ok (okDs_edges g)
    simp [-Prod.exists, h.tri, e]
end
end L_k06

set_option maxHeartbeats 2000000
set_option exponentiation.threshold 3000
namespace L_k06
open PySem PyProof.Rows L2 He Pm
/-- no manner -/
def NM (x : D) : Prop := (∀ M, bIsi isiTab M [.d x, .d (.ty "str")] = some (.d (.bl false))) ∨ ∃ w, x = .str w ∧ PyData.strOk w = true ∧ w ≠ "walk" ∧ w ≠ "trail" ∧ w ≠ "path"
section
variable {M : List (Option Cell)} {x : D} {neg : Bool} {l : List D}
theorem opIn_tup (kx : okH 8 x = true) (kl : okM 8 l) : opIn neg x (.tup l) = some (xor neg (inB x l)) := by
  have e1 : okD 60 x = true := okD_H (okH_mono x (by decide) kx)
  have e2 : okDs 60 l = true := okDs_H (okHs_mono l (by decide) (okM_iff.mpr kl))
  cases x <;> simp only [opIn, e1, e2, Bool.and_self, if_true, inB] <;> simp [okH] at kx
theorem ok3 : okM 8 [D.str "walk", .str "trail", .str "path"] := fun y hy => by
  simp only [List.mem_cons, List.not_mem_nil, or_false] at hy
  rcases hy with rfl | rfl | rfl <;> exact strOk_lit _
theorem rank_bad (h : NM x) : Fxc (f_Manner_rank [.d x] M) fun e M' => e = ⟨4, [("manner", x)]⟩ ∧ M' = M := by
  unfold f_Manner_rank
  rw [fxc_fn]
  unfold c_Manner_rank
  refine wxc_seq.mpr (.inl (wxc_fif.mpr (.inr ?_)))
  rcases h with h | ⟨w, rfl, k, h1, h2, h3⟩
  · simp [-Prod.exists, h, wxc_raise]
  · have e : opIn true (.str w) (.tup [.str "walk", .str "trail", .str "path"]) = some true := by
      rw [opIn_tup (show okH 8 (.str w) = true from k) ok3]
      simp [inB, dEq, h1.symm, h2.symm, h3.symm]
    have bi : bIsi isiTab M [.d (.str w), .d (.ty "str")] = some (.d (.bl true)) := rfl
    simp [-Prod.exists, wxc_raise, e, bi]
theorem rank_good {w : Str} {j : Nat} (h : w ∈ [("walk" : Str), "trail", "path"]) (hj : [("walk" : Str), "trail", "path"].idxOf w = j) : Fw (f_Manner_rank [.d (.str w)] M) fun r M' => r = .d (.int j) ∧ M' = M := by
  have big := big
  have k : PyData.strOk w = true := by
    simp only [List.mem_cons, List.not_mem_nil, or_false] at h
    rcases h with rfl | rfl | rfl <;> exact strOk_lit _
  have e : opIn true (.str w) (.tup [.str "walk", .str "trail", .str "path"]) = some false := by
    rw [opIn_tup (show okH 8 (.str w) = true from k) ok3]
    simp only [List.mem_cons, List.not_mem_nil, or_false] at h
    rcases h with rfl | rfl | rfl <;> simp [inB, dEq]
  have bi : bIsi isiTab M [.d (.str w), .d (.ty "str")] = some (.d (.bl true)) := rfl
  unfold f_Manner_rank
  rw [fw_fn]
  unfold c_Manner_rank
  rw [wp_seq]
  refine Wp.mono (Q := fun fl s => fl = .nx ∧ s = ⟨[.w (.d (.str w))], M, M.length⟩) ?_ ?_
  · simp [-Prod.exists, e, bi]
  · rintro fl s ⟨rfl, rfl⟩
    have h' : w = ("walk" : Str) ∨ w = "trail" ∨ w = "path" := by simpa using h
    subst hj
    simp [-Prod.exists, retR, h']
/-! ### nodes -/
variable {ts ps : List D} {w : W} {a b : D}
theorem inB_nodes {x : D} {ps : List D} (g : ∀ e ∈ ps, good e) : inB x ps = true ↔ x ∈ ps := by
  unfold inB
  rw [List.any_eq_true]
  constructor
  · rintro ⟨y, hy, e⟩
    obtain ⟨s, rfl, _⟩ := g y hy
    rw [dEq_str e]; exact hy
  · intro h
    obtain ⟨s, rfl, _⟩ := g x h
    exact ⟨_, h, by show (s == s) = true; simp⟩
theorem okDs_nodes {ps : List D} (g : ∀ e ∈ ps, good e) : okDs 60 ps = true := okDs_H (okHs_mono ps (by decide) (okM_iff.mpr (words_ok g)))
theorem inP {x : D} (g : ∀ e ∈ ps, good e) (kx : okD 60 x = true) : opIn true x (.lst ps) = some (!inB x ps) := by
  rw [opIn_any kx (okDs_nodes g)]; simp
theorem chk_good (h : isG M ts ps w) (g : ∀ e ∈ ps, good e) (ha : a ∈ ps) (hb : b ∈ ps) : Fw (f_check_nodes [w, .d (.tup [a, b])] M) fun r M' => r = .d .non ∧ M' = M := by
  have ok := okDs_nodes g
  have k : ∀ x ∈ ps, okD 60 x = true := fun x hx => by
    rw [okDs_all, List.all_eq_true] at ok; exact ok x hx
  have ea := inP g (k a ha)
  have eb := inP g (k b hb)
  rw [(inB_nodes g).mpr ha] at ea
  rw [(inB_nodes g).mpr hb] at eb
  unfold f_check_nodes
  rw [fw_fn]
  unfold c_check_nodes
  simp [-Prod.exists]
  refine wp_loop (fun j s => ∃ t, s = ⟨[.w w, .w (.d (.tup [a, b])), t], M, M.length⟩) ⟨_, rfl⟩ ?_ ?_
  · rintro j d s hd ⟨t, rfl⟩
    have hm : d ∈ [a, b] := List.mem_of_getElem? hd
    have ed : opIn true d (.lst ps) = some false := by
      rcases List.mem_cons.mp hm with rfl | hm
      · exact ea
      · rw [List.mem_singleton.mp hm]; exact eb
    refine ⟨_, rfl, ?_⟩
    simp [-Prod.exists, h.pts, ed]
  · rintro s ⟨t, rfl⟩
    simp [-Prod.exists]
theorem chk_bad1 (h : isG M ts ps w) (g : ∀ e ∈ ps, good e) (ka : okD 60 a = true) (ha : a ∉ ps) : Fxc (f_check_nodes [w, .d (.tup [a, b])] M) fun x M' => x = ⟨5, [("node", a)]⟩ ∧ M' = M := by
  have ea := inP g ka
  rw [show inB a ps = false from Bool.eq_false_iff.mpr fun q => ha ((inB_nodes g).mp q)] at ea
  unfold f_check_nodes
  rw [fxc_fn]
  unfold c_check_nodes
  refine wxc_for ?_
  simp [-Prod.exists]
  refine wxc_loop (j0 := 0) (fun j s => ∃ t, s = ⟨[.w w, .w (.d (.tup [a, b])), t], M, M.length⟩) (by simp) ⟨_, rfl⟩ (fun i d s hi => absurd hi (Nat.not_lt_zero _)) ?_
  rintro d s hd ⟨t, rfl⟩
  obtain rfl : d = a := by simpa using hd.symm
  refine ⟨_, rfl, ?_⟩
  refine wxc_fif.mpr (.inr ?_)
  simp [-Prod.exists, h.pts, ea, wxc_raise]
theorem chk_bad2 (h : isG M ts ps w) (g : ∀ e ∈ ps, good e) (ha : a ∈ ps) (kb : okD 60 b = true) (hb : b ∉ ps) : Fxc (f_check_nodes [w, .d (.tup [a, b])] M) fun x M' => x = ⟨5, [("node", b)]⟩ ∧ M' = M := by
  have ok := okDs_nodes g
  have k : ∀ x ∈ ps, okD 60 x = true := fun x hx => by
    rw [okDs_all, List.all_eq_true] at ok; exact ok x hx
  have ea := inP g (k a ha)
  rw [(inB_nodes g).mpr ha] at ea
  have eb := inP g kb
  rw [show inB b ps = false from Bool.eq_false_iff.mpr fun q => hb ((inB_nodes g).mp q)] at eb
  unfold f_check_nodes
  rw [fxc_fn]
  unfold c_check_nodes
  refine wxc_for ?_
  simp [-Prod.exists]
  refine wxc_loop (j0 := 1) (fun j s => ∃ t, s = ⟨[.w w, .w (.d (.tup [a, b])), t], M, M.length⟩) (by simp) ⟨_, rfl⟩ ?_ ?_
  · rintro i d s hi hd ⟨t, rfl⟩
    obtain rfl : i = 0 := by omega
    obtain rfl : d = a := by simpa using hd.symm
    refine ⟨_, rfl, ?_⟩
    simp [-Prod.exists, h.pts, ea]
  · rintro d s hd ⟨t, rfl⟩
    obtain rfl : d = b := by simpa using hd.symm
    refine ⟨_, rfl, ?_⟩
    refine wxc_fif.mpr (.inr ?_)
    simp [-Prod.exists, h.pts, eb, wxc_raise]
end
end L_k06

set_option maxHeartbeats 2000000
set_option exponentiation.threshold 3000
namespace L_k06
open PySem PyProof.Rows L2 He Pm
/-- a value that may be asked -/
def Th (x : D) : Prop := ((∀ M, bIsi isiTab M [.d x, .d (.ty "tuple")] = some (.d (.bl false))) ∧ ∀ xs, x ≠ .tup xs) ∨ ∃ xs, x = .tup xs ∧ (∀ y ∈ xs, El y) ∧ xs.length ≤ 20
def IsT (es : List D) (s f : D) (rk : Int) (x : D) : Prop := ∃ xs, x = .tup xs ∧ IsW es s f rk xs
/-! ### one step -/
theorem ix0 {a b c : D} : atI [a, b, c] 0 = some a := rfl
theorem ix1 {a b c : D} : atI [a, b, c] 1 = some b := rfl
theorem ix2 {a b c : D} : atI [a, b, c] 2 = some c := rfl
theorem good_tgt {e : D} (g : goodE e) : good (tgtE e) := by
  obtain ⟨s, l, t, rfl, h1, h2, h3⟩ := g
  exact ⟨t, rfl, h3⟩
theorem good_cur {s : D} {xs : List D} (gs : good s) (h : ∀ e ∈ xs, goodE e) : good (curN s xs) := by
  unfold curN
  cases e : (xs.map tgtE).getLast? with
  | none => exact gs
  | some z =>
    obtain ⟨y, hy, rfl⟩ := List.mem_map.mp (List.mem_of_getLast? e)
    exact good_tgt (h y hy)
theorem last_seen (s : D) (xs : List D) : (s :: xs.map tgtE).getLast? = some (curN s xs) := by
  rw [List.getLast?_cons]; rfl
theorem good_ne {a b : D} (ga : good a) (gb : good b) : (a = b → opEq true a b = some false) ∧ (a ≠ b → opEq true a b = some true) := by
  obtain ⟨x, rfl, hx⟩ := ga
  obtain ⟨y, rfl, hy⟩ := gb
  have k : ∀ {w : Str}, goodN w → PyData.strOk w = true := fun q => strOk_of q.2.2 (by decide +kernel)
  rw [opEq_strs (k hx) (k hy)]
  constructor
  · intro e; cases e; simp
  · intro e
    have : x ≠ y := fun z => e (by rw [z])
    simp [this]
section
variable {M : List (Option Cell)} {ts ps : List D} {w : W} {s f x : D}
def WInv (M : List (Option Cell)) (ts : List D) (w : W) (s f m : D) (rk : Int) (xs : List D) (j : Nat) (st : S) : Prop := ∃ t, st = ⟨[.w (.d (.tup xs)), .w w, .w (.d s), .w (.d f), .w (.d m), .w (.d (.int rk)), .w (.loc M.length), t], M ++ [some (.lst ((s :: (xs.take j).map tgtE).map .d))], M.length⟩ ∧
  (∀ e ∈ xs.take j, e ∈ ts) ∧ ∀ f, ChainP ts s xs f ↔ ChainP ts (curN s (xs.take j)) (xs.drop j) f
theorem way_spec {mn : Str} {j : Nat} (h : isG M ts ps w) (g : ∀ e ∈ ts, goodE e) (gp : ∀ e ∈ ps, good e) (hs : s ∈ ps) (hf : f ∈ ps) (hm : mn ∈ [("walk" : Str), "trail", "path"]) (hj : [("walk" : Str), "trail", "path"].idxOf mn = j) (hj3 : j < 3) (hx : Th x) (hM : ∀ c, isG (M ++ [c]) ts ps w) :
    Fw (f_is_way [.d x, w, .d s, .d f, .d (.str mn)] M) fun r M' => ∃ b, r = .d (.bl b) ∧ (b = true ↔ IsT ts s f j x) ∧ M' = M := by
  have big := big
  have gs := gp s hs
  have gf := gp f hf
  unfold f_is_way
  rw [fw_fn]
  unfold c_is_way
  generalize hr : f_Manner_rank = fr
  generalize hc : f_check_nodes = fc
  generalize hi : f_Graph_QcontainsQ = fi
  simp [-Prod.exists]
  subst hr
  refine (rank_good hm hj).mono fun r M' ⟨e1, e2⟩ => ?_
  subst e1 e2
  simp [-Prod.exists, wp_resW]
  refine ⟨by omega, ?_⟩
  subst hc
  refine (chk_good h gp hs hf).mono fun r M' ⟨e1, e2⟩ => ?_
  subst e1 e2
  rcases hx with ⟨hx, hn⟩ | ⟨xs, rfl, he, hl⟩
  · simp [-Prod.exists, hx]
    rintro ⟨xs, e, _⟩
    exact hn xs e
  · have bi : bIsi isiTab M' [.d (.tup xs), .d (.ty "tuple")] = some (.d (.bl true)) := rfl
    have no : ∀ {b : Bool}, (¬ ChainP ts s xs f) → b = false → (b = true ↔ IsT ts s f j (.tup xs)) := fun {b} q hb => by
      rw [hb]
      exact ⟨fun z => (nomatch z), fun ⟨ys, e, z⟩ => by cases e; exact absurd z.1 q⟩
    simp [-Prod.exists, bi]
    refine ⟨by omega, ?_⟩
    refine wp_loop (WInv M' ts w s f (.str mn) j xs) ⟨_, rfl, by simp, fun f => Iff.rfl⟩ ?_ ?_
    · rintro n d st hd ⟨t, rfl, hin, hch⟩
      refine ⟨_, rfl, ?_⟩
      have hmem : d ∈ xs := List.mem_of_getElem? hd
      have hlt := (List.getElem?_eq_some_iff.mp hd).1
      have tk : xs.take (n + 1) = xs.take n ++ [d] := by rw [List.take_add_one, hd]; rfl
      have dr : xs.drop n = d :: xs.drop (n + 1) := by
        rw [List.drop_eq_getElem_cons hlt, (List.getElem?_eq_some_iff.mp hd).2]
      have hd2 : ∀ f, ChainP ts s xs f ↔ d ∈ ts ∧ srcE d = curN s (xs.take n) ∧ ChainP ts (tgtE d) (xs.drop (n + 1)) f := fun f => by rw [hch f, dr]; rfl
      have isg := (hM (some (.lst ((s :: (xs.take n).map tgtE).map .d))))
      have g2 : (M' ++ [some (Cell.lst ((s :: (xs.take n).map tgtE).map W.d))])[M'.length]? = some (some (.lst ((s :: (xs.take n).map tgtE).map W.d))) := by rw [get_app2 rfl]; rfl
      have gc : good (curN s (xs.take n)) := good_cur gs fun e he' => g e (hin e he')
      have la := getLast_atI (last_seen s (xs.take n))
      have sl : (s :: (xs.take n).map tgtE).length ≤ 21 := by simp; omega
      have sn : ((s :: (xs.take n).map tgtE) ++ [tgtE d]) = s :: (xs.take (n + 1)).map tgtE := by rw [tk]; simp
      have inv : ∀ t, d ∈ ts → srcE d = curN s (xs.take n) → WInv M' ts w s f (.str mn) j xs (n + 1) ⟨[.w (.d (.tup xs)), .w w, .w (.d s), .w (.d f), .w (.d (.str mn)), .w (.d (.int j)), .w (.loc M'.length), t], M' ++ [some (.lst ((s :: (xs.take (n + 1)).map tgtE).map .d))], M'.length⟩ := fun t q1 q2 =>
        ⟨t, rfl, fun e he' => by
          rw [tk] at he'
          rcases List.mem_append.mp he' with q | q
          · exact hin e q
          · rw [List.mem_singleton.mp q]; exact q1, fun f => by
          rw [hd2 f, tk, cur_snoc]
          exact ⟨fun z => z.2.2, fun z => ⟨q1, q2, z⟩⟩⟩
      generalize hS : (s :: (xs.take n).map tgtE) = S0 at *
      simp [-Prod.exists, wp_resW, isg.cls]
      subst hi
      refine (contains_m isg g (he d hmem)).mono fun r M2 ⟨e1, e2⟩ => ?_
      subst e1 e2
      by_cases hdt : d ∈ ts
      · have eB : inB d ts = true := (inB_edges g).mpr hdt
        obtain ⟨a, l, b, rfl, ga, gl, gb⟩ := g d hdt
        have ne := good_ne (a := D.str a) (b := curN s (xs.take n)) ⟨a, rfl, ga⟩ gc
        rw [eB]
        by_cases hsrc : D.str a = curN s (xs.take n)
        · have i2 := inv (.w (.d (.tup [.str a, .str l, .str b]))) hdt hsrc
          rw [← sn] at i2
          have z0 : S0.length < sizeLine := by omega
          simpa [-Prod.exists, ix0, ix2, ixM_loc g2, la, ne.1 hsrc, lstAt_loc g2, stAppend, z0, set_app2, tgtE] using i2
        · simp [-Prod.exists, ix0, ix2, ixM_loc g2, la, ne.2 hsrc]
          rintro ⟨ys, e, z⟩
          cases e
          exact hsrc ((hd2 f).mp z.1).2.1
      · have eB : inB d ts = false := Bool.eq_false_iff.mpr fun q => hdt ((inB_edges g).mp q)
        rw [eB]
        simp [-Prod.exists]
        rintro ⟨ys, e, z⟩
        cases e
        exact hdt ((hd2 f).mp z.1).1
    · rintro st ⟨t, rfl, hin, hch⟩
      have hin' : ∀ e ∈ xs, e ∈ ts := by simpa using hin
      have hch' : ∀ f, ChainP ts s xs f ↔ curN s xs = f := fun f => by simpa [ChainP] using hch f
      have gx : ∀ e ∈ xs, goodE e := fun e he' => g e (hin' e he')
      have gc : good (curN s xs) := good_cur gs gx
      have la := getLast_atI (last_seen s xs)
      have sl : (s :: xs.map tgtE).length = xs.length + 1 := by simp
      have gS : ∀ y ∈ s :: xs.map tgtE, good y := fun y hy => by
        rcases List.mem_cons.mp hy with rfl | hy
        · exact gs
        · obtain ⟨e, he', rfl⟩ := List.mem_map.mp hy
          exact good_tgt (gx e he')
      have ne := good_ne gc gf
      have setS := words_set gS (fun x hx => hx) (by omega)
      have setX := edges_set gx (by omega)
      have lX : dLenSet (.tup xs) = some (.d (.int (ddD xs).length)) := by
        show (if setOk xs = true then _ else none) = _
        rw [if_pos setX]
      have nX := ddD_nodup (goodE.okM gx)
      have nS := ddD_nodup (words_ok gS)
      have tk : (s :: (xs.take xs.length).map tgtE) = s :: xs.map tgtE := by simp
      rw [tk]
      have g2 : (M' ++ [some (Cell.lst ((s :: xs.map tgtE).map W.d))])[M'.length]? = some (some (.lst ((s :: xs.map tgtE).map W.d))) := by rw [get_app2 rfl]; rfl
      generalize hS : (s :: xs.map tgtE) = S0 at *
      have lS : dLenSet (.lst S0) = some (.d (.int (ddD S0).length)) := by
        show (if setOk S0 = true then _ else none) = _
        rw [if_pos setS]
      by_cases hcf : curN s xs = f
      · have j3 : j = 0 ∨ j = 1 ∨ j = 2 := by omega
        rcases j3 with rfl | rfl | rfl
        · simp [-Prod.exists, ixM_loc g2, la, ne.1 hcf]
          exact ⟨xs, rfl, (hch' f).mpr hcf, by simp, by simp⟩
        · simp [-Prod.exists, ixM_loc g2, la, ne.1 hcf, b1, lX]
          have it : IsT ts s f 1 (.tup xs) ↔ xs.Nodup := ⟨fun ⟨ys, e, z⟩ => by cases e; exact z.2.1 rfl, fun q => ⟨xs, rfl, (hch' f).mpr hcf, fun _ => q, by simp⟩⟩
          rw [it, ← nX]
          omega
        · simp [-Prod.exists, ixM_loc g2, la, ne.1 hcf, b1, lS, view_loc g2, bLen_loc g2]
          have it : IsT ts s f 2 (.tup xs) ↔ S0.Nodup := ⟨fun ⟨ys, e, z⟩ => by cases e; rw [← hS]; exact z.2.2 rfl, fun q => ⟨xs, rfl, (hch' f).mpr hcf, by simp, fun _ => by rw [hS]; exact q⟩⟩
          rw [it, ← nS]
          omega
      · simp [-Prod.exists, ixM_loc g2, la, ne.2 hcf]
        rintro ⟨ys, e, z⟩
        cases e
        exact hcf ((hch' f).mp z.1)
end
end L_k06

set_option maxHeartbeats 2000000
set_option exponentiation.threshold 3000
namespace L_k06
open PySem PyProof.Rows L2 He Pm
section
variable {M : List (Option Cell)} {es ps : List D} {s f x : D} {rk : Int}
def FInv (M : List (Option Cell)) (es : List D) (s f : D) (rk : Int) (xs : List D) (j : Nat) (st : S) : Prop := ∃ t, st = ⟨[.w (.d (.tup xs)), .w (.d (.lst es)), .w (.d s), .w (.d f), .w (.d (.int rk)), .w (.d (curN s (xs.take j))), .w (.loc M.length), .w (.loc (M.length + 1)), t], M ++ [some (.lst ((s :: (xs.take j).map tgtE).map .d)), some (.lst ((xs.take j).map .d))], M.length⟩ ∧
  ((∀ e ∈ xs.take j, e ∈ es) ∧ ∀ f, ChainP es s xs f ↔ ChainP es (curN s (xs.take j)) (xs.drop j) f) ∧ (rk = 1 → (xs.take j).Nodup) ∧ (rk = 2 → (s :: (xs.take j).map tgtE).Nodup)
theorem good_eq {a b : D} (ga : good a) (gb : good b) : (a = b → opEq false a b = some true) ∧ (a ≠ b → opEq false a b = some false) := by
  obtain ⟨x, rfl, hx⟩ := ga
  obtain ⟨y, rfl, hy⟩ := gb
  have k : ∀ {w : Str}, goodN w → PyData.strOk w = true := fun q => strOk_of q.2.2 (by decide +kernel)
  rw [opEq_strs (k hx) (k hy)]
  constructor
  · intro e; cases e; simp
  · intro e
    have : x ≠ y := fun z => e (by rw [z])
    simp [this]
theorem p0 {a b : Option Cell} : (M ++ [a, b])[M.length]? = some a := by rw [List.getElem?_append_right (Nat.le_refl _)]; simp
theorem p1 {a b : Option Cell} : (M ++ [a, b])[M.length + 1]? = some b := by rw [List.getElem?_append_right (by omega)]; simp
theorem s0 {a b c : Option Cell} : (M ++ [a, b]).set M.length c = M ++ [c, b] := by simp [List.set_append]
theorem s1 {a b c : Option Cell} : (M ++ [a, b]).set (M.length + 1) c = M ++ [a, c] := by simp [List.set_append]
theorem fits_spec (g : ∀ e ∈ es, goodE e) (gs : good s) (gf : good f) (hx : Th x) :
    Fw (f__law_fits [.d x, .d (.lst es), .d s, .d f, .d (.int rk)] M) fun r M' => ∃ b, r = .d (.bl b) ∧ (b = true ↔ IsT es s f rk x) ∧ M' = M := by
  have big := big
  unfold f__law_fits
  rw [fw_fn]
  unfold c__law_fits
  rcases hx with ⟨hx, hn⟩ | ⟨xs, rfl, he, hl⟩
  · simp [-Prod.exists, hx]
    rintro ⟨xs, e, _⟩
    exact hn xs e
  · have bi : bIsi isiTab M [.d (.tup xs), .d (.ty "tuple")] = some (.d (.bl true)) := rfl
    simp [-Prod.exists, bi]
    refine ⟨by omega, ?_⟩
    refine wp_loop (FInv M es s f rk xs) ⟨.no, by simp [curN], ⟨by simp, fun f => by simp [curN]⟩, by simp, by simp⟩ ?_ ?_
    · rintro n d st hd ⟨t, rfl, ⟨hin, hch⟩, h1, h2⟩
      refine ⟨_, rfl, ?_⟩
      have hmem : d ∈ xs := List.mem_of_getElem? hd
      have hlt := (List.getElem?_eq_some_iff.mp hd).1
      have tk : xs.take (n + 1) = xs.take n ++ [d] := by rw [List.take_add_one, hd]; rfl
      have dr : xs.drop n = d :: xs.drop (n + 1) := by
        rw [List.drop_eq_getElem_cons hlt, (List.getElem?_eq_some_iff.mp hd).2]
      have hd2 : ∀ f, ChainP es s xs f ↔ d ∈ es ∧ srcE d = curN s (xs.take n) ∧ ChainP es (tgtE d) (xs.drop (n + 1)) f := fun f => by rw [hch f, dr]; rfl
      have gU : ∀ e ∈ xs.take n, goodE e := fun e he' => g e (hin e he')
      have gc : good (curN s (xs.take n)) := good_cur gs gU
      have gS : ∀ y ∈ s :: (xs.take n).map tgtE, good y := fun y hy => by
        rcases List.mem_cons.mp hy with rfl | hy
        · exact gs
        · obtain ⟨e, he', rfl⟩ := List.mem_map.mp hy
          exact good_tgt (gU e he')
      have sl : (s :: (xs.take n).map tgtE).length ≤ 21 := by simp; omega
      have ul : (xs.take n).length ≤ 20 := by simp; omega
      have nx : xs = xs.take n ++ d :: xs.drop (n + 1) := by rw [← dr, List.take_append_drop]
      have tS : xs.map tgtE = (xs.take n).map tgtE ++ tgtE d :: (xs.drop (n + 1)).map tgtE := by
        conv => lhs; rw [nx]
        simp
      have g2 : (M ++ [some (Cell.lst ((s :: (xs.take n).map tgtE).map W.d)), some (Cell.lst ((xs.take n).map W.d))])[M.length]? = some (some (.lst ((s :: (xs.take n).map tgtE).map W.d))) := by
        rw [List.getElem?_append_right (Nat.le_refl _)]; simp
      have g3 : (M ++ [some (Cell.lst ((s :: (xs.take n).map tgtE).map W.d)), some (Cell.lst ((xs.take n).map W.d))])[M.length + 1]? = some (some (.lst ((xs.take n).map W.d))) := by
        rw [List.getElem?_append_right (by omega)]; simp
      have oE := opIn_any (neg := true) (he d hmem).ok (okDs_edges g)
      by_cases hdt : d ∈ es
      · rw [(inB_edges g).mpr hdt] at oE
        obtain ⟨a, l, b, rfl, ga, gl, gb⟩ := g d hdt
        have ne := good_ne (a := D.str a) (b := curN s (xs.take n)) ⟨a, rfl, ga⟩ gc
        by_cases hsrc : D.str a = curN s (xs.take n)
        · have oU := opIn_any (neg := false) (he _ hmem).ok (okDs_edges gU)
          have kb : okD 60 (.str b) = true := by
            have ok := okDs_nodes (ps := [D.str b]) fun e he' => by rw [List.mem_singleton.mp he']; exact ⟨b, rfl, gb⟩
            simpa [okDs] using ok
          have oS := opIn_any (neg := false) kb (okDs_nodes gS)
          have inv : ¬ (D.tup [.str a, .str l, .str b] ∈ xs.take n ∧ rk = 1) → ¬ (D.str b ∈ s :: (xs.take n).map tgtE ∧ rk = 2) → ∀ t, FInv M es s f rk xs (n + 1) ⟨[.w (.d (.tup xs)), .w (.d (.lst es)), .w (.d s), .w (.d f), .w (.d (.int rk)), .w (.d (.str b)), .w (.loc M.length), .w (.loc (M.length + 1)), t], M ++ [some (.lst (((s :: (xs.take n).map tgtE) ++ [D.str b]).map .d)), some (.lst ((xs.take n ++ [D.tup [.str a, .str l, .str b]]).map .d))], M.length⟩ := fun q1 q2 t => by
            refine ⟨t, by rw [tk, cur_snoc]; simp [tgtE], ⟨fun e he' => ?_, fun f => ?_⟩, fun e => ?_, fun e => ?_⟩
            · rw [tk] at he'
              rcases List.mem_append.mp he' with q | q
              · exact hin e q
              · rw [List.mem_singleton.mp q]; exact hdt
            · rw [hd2 f, tk, cur_snoc]
              exact ⟨fun z => z.2.2, fun z => ⟨hdt, hsrc, z⟩⟩
            · rw [tk, List.nodup_append]
              exact ⟨h1 e, by simp, fun u hu v hv z => by
                rw [List.mem_singleton.mp hv] at z
                exact q1 ⟨z ▸ hu, e⟩⟩
            · have : s :: (xs.take (n + 1)).map tgtE = (s :: (xs.take n).map tgtE) ++ [D.str b] := by rw [tk]; simp [tgtE]
              rw [this, List.nodup_append]
              exact ⟨h2 e, by simp, fun u hu v hv z => by
                rw [List.mem_singleton.mp hv] at z
                exact q2 ⟨z ▸ hu, e⟩⟩
          have bad1 : D.tup [.str a, .str l, .str b] ∈ xs.take n → rk = 1 → ¬ IsT es s f rk (.tup xs) := fun q1 q2 ⟨ys, e, z⟩ => by
            cases e
            have nd := z.2.1 q2
            rw [nx, List.nodup_append] at nd
            exact nd.2.2 _ q1 _ List.mem_cons_self rfl
          have bad2 : D.str b ∈ s :: (xs.take n).map tgtE → rk = 2 → ¬ IsT es s f rk (.tup xs) := fun q1 q2 ⟨ys, e, z⟩ => by
            cases e
            have nd := z.2.2 q2
            rw [tS, ← List.cons_append, List.nodup_append] at nd
            exact nd.2.2 _ q1 _ List.mem_cons_self rfl
          generalize hS : (s :: (xs.take n).map tgtE) = S0 at *
          generalize hU : xs.take n = U0 at *
          have z0 : S0.length < sizeLine := by omega
          have z1 : U0.length < sizeLine := by omega
          have iU := inB_edges (x := .tup [.str a, .str l, .str b]) gU
          have iS := inB_nodes (x := .str b) gS
          have lS := fun c => lstAt_loc (p0 (M := M) (a := some (.lst (S0.map W.d))) (b := c))
          have lU := lstAt_loc g3
          by_cases c1 : D.tup [.str a, .str l, .str b] ∈ U0 ∧ rk = 1
          · rw [iU.mpr c1.1] at oU
            simp [-Prod.exists, ix0, oE, ne.1 hsrc, deepV_loc g3, oU, c1.2]
            rw [← c1.2]
            exact bad1 c1.1 c1.2
          · have skip : inB (.tup [.str a, .str l, .str b]) U0 = false ∨ rk ≠ 1 := by
              cases q : inB (.tup [.str a, .str l, .str b]) U0 with
              | false => exact .inl rfl
              | true => exact .inr fun e => c1 ⟨iU.mp q, e⟩
            by_cases c2 : D.str b ∈ S0 ∧ rk = 2
            · rw [iS.mpr c2.1] at oS
              have n1 : rk ≠ 1 := by omega
              have fin := bad2 c2.1 c2.2
              have e2 := c2.2
              subst e2
              simp [-Prod.exists, ix0, ix2, oE, ne.1 hsrc, deepV_loc g3, deepV_loc g2, oU, oS]
              cases inB (D.tup [.str a, .str l, .str b]) U0 <;> simp [fin]
            · have skip2 : inB (.str b) S0 = false ∨ rk ≠ 2 := by
                cases q : inB (.str b) S0 with
                | false => exact .inl rfl
                | true => exact .inr fun e => c2 ⟨iS.mp q, e⟩
              have fin := inv c1 c2 (.w (.d (.tup [.str a, .str l, .str b])))
              simp only [List.map_append, List.map_cons, List.map_nil] at fin
              simp [-Prod.exists, ix0, ix2, oE, ne.1 hsrc, deepV_loc g3, deepV_loc g2, oU, oS, lU, lS, stAppend, s0, s1, z0, z1, fin]
              have hB : ∀ Z : Prop, inB (D.str b) S0 = false ∨ inB (D.str b) S0 = true ∧ (¬rk = 2 ∨ Z) := fun Z => by
                rcases skip2 with q | q
                · exact .inl q
                · cases hq : inB (D.str b) S0 with
                  | false => exact .inl rfl
                  | true => exact .inr ⟨rfl, .inl q⟩
              rcases skip with q | q
              · exact .inl ⟨q, hB _⟩
              · cases hq : inB (D.tup [.str a, .str l, .str b]) U0 with
                | false => exact .inl ⟨rfl, hB _⟩
                | true => exact .inr ⟨rfl, .inl ⟨q, hB _⟩⟩
        · simp [-Prod.exists, ix0, oE, ne.2 hsrc]
          rintro ⟨ys, e, z⟩
          cases e
          exact hsrc ((hd2 f).mp z.1).2.1
      · rw [show inB d es = false from Bool.eq_false_iff.mpr fun q => hdt ((inB_edges g).mp q)] at oE
        simp [-Prod.exists, oE]
        rintro ⟨ys, e, z⟩
        cases e
        exact hdt ((hd2 f).mp z.1).1
    · rintro st ⟨t, rfl, ⟨hin, hch⟩, h1, h2⟩
      have hin' : ∀ e ∈ xs, e ∈ es := by simpa using hin
      have hch' : ∀ f, ChainP es s xs f ↔ curN s xs = f := fun f => by simpa [ChainP] using hch f
      have gc : good (curN s xs) := good_cur gs fun e he' => g e (hin' e he')
      rw [List.take_length] at h1 h2
      have eq := good_eq gc gf
      simp [-Prod.exists]
      by_cases hcf : curN s xs = f
      · exact .inr ⟨eq.1 hcf, xs, rfl, (hch' f).mpr hcf, h1, h2⟩
      · exact .inl ⟨eq.2 hcf, fun ⟨ys, e, z⟩ => by cases e; exact hcf ((hch' f).mp z.1)⟩
end
end L_k06

namespace L_k06
open PySem PyProof.Rows L2 He Pm
@[irreducible] def b_1 : Ev Fl := fSet 3 (evW (eCallK f__law_take (fun ws _ => ws) 2 0 (eaCons (evN (eVar 0)) (eaCons (evW (eC (.int 9))) (eaNil))) (eaNil)))
@[irreducible] def b_2 : Ev Fl := fIf (eAndT (eOpT (opEq false) (eVar 3) (eC (.int 0))) (eOpT (opEq true) (eVar 1) (eLst (eaNil)))) (fSet 1 (evW (eOp (opAdd) (eVar 1) (eSl (eVar 1) (eoS (eNeg (eC (.int 1)))) (eoN))))) (fNx)
@[irreducible] def b_3 : Ev Fl := fIf (eAndT (eOpT (opEq false) (eVar 3) (eC (.int 1))) (eOpT (opEq true) (eVar 1) (eLst (eaNil)))) (fSeq (fSet 4 (evW (eCallK f__law_take (fun ws _ => ws) 2 0 (eaCons (evN (eVar 0)) (eaCons (evW (eBf (bLen) (eaCons (evW (eVar 1)) (eaNil)))) (eaNil))) (eaNil)))) (fSet 1 (evW (eOp (opAdd) (eSl (eVar 1) (eoN) (eoS (eVar 4))) (eSl (eVar 1) (eoS (eOp (opAdd) (eVar 4) (eC (.int 1)))) (eoN)))))) (fNx)
@[irreducible] def b_4 : Ev Fl := fIf (eAndT (eOpT (opEq false) (eVar 3) (eC (.int 2))) (eOpT (opEq true) (eVar 1) (eLst (eaNil)))) (fSeq (fSet 4 (evW (eCallK f__law_take (fun ws _ => ws) 2 0 (eaCons (evN (eVar 0)) (eaCons (evW (eBf (bLen) (eaCons (evW (eVar 1)) (eaNil)))) (eaNil))) (eaNil)))) (fSet 1 (evW (eOp (opAdd) (eOp (opAdd) (eSl (eVar 1) (eoN) (eoS (eVar 4))) (eLst (eaCons (evW (eTup (eaCons (evC (eIx (eIx (eVar 1) (eVar 4)) (eC (.int 2)))) (eaCons (evC (eIx (eIx (eVar 1) (eVar 4)) (eC (.int 1)))) (eaCons (evC (eIx (eIx (eVar 1) (eVar 4)) (eC (.int 0)))) (eaNil)))))) (eaNil)))) (eSl (eVar 1) (eoS (eOp (opAdd) (eVar 4) (eC (.int 1)))) (eoN)))))) (fNx)
@[irreducible] def b_5 : Ev Fl := fIf (eOpT (opEq false) (eVar 3) (eC (.int 3))) (fRet (eBf (bList) (eaCons (evW (eVar 1)) (eaNil)))) (fNx)
@[irreducible] def b_6 : Ev Fl := fIf (eOpT (opEq false) (eVar 3) (eC (.int 4))) (fSet 1 (evW (eRevL (eVar 1)))) (fNx)
@[irreducible] def b_7 : Ev Fl := fIf (eOpT (opEq false) (eVar 3) (eC (.int 5))) (fRet (eCallK f__law_of (fun ws _ => ws) 2 0 (eaCons (evN (eVar 0)) (eaCons (evW (eLst (eaCons (evW (eC .non)) (eaCons (evW (eC (.int 0))) (eaCons (evW (eC (.str ""))) (eaCons (evW (eIx (eVar 2) (eC (.int 0)))) (eaCons (evW (eLst (eaNil))) (eaCons (evW (eTup (eaCons (evC (eTup (eaNil))) (eaNil)))) (eaCons (evW (eTup (eaCons (evC (eSl (eIx (eVar 2) (eC (.int 0))) (eoN) (eoS (eC (.int 2))))) (eaNil)))) (eaCons (evW (eTup (eaCons (evC (eC (.int 1))) (eaCons (evC (eC (.int 2))) (eaNil))))) (eaCons (evW (eBf (b1 dTup) (eaCons (evW (eLst (eaCons (evW (eBf (bList) (eaCons (evW (eIx (eVar 2) (eC (.int 0)))) (eaNil)))) (eaNil)))) (eaNil)))) (eaNil)))))))))))) (eaNil))) (eaNil))) (fNx)
@[irreducible] def b_8 : Ev Fl := fIf (eOpT (opEq false) (eVar 3) (eC (.int 6))) (fSet 1 (evW (eOp (opAdd) (eVar 1) (eLst (eaCons (evW (eCallK f__law_of (fun ws _ => ws) 2 0 (eaCons (evN (eVar 0)) (eaCons (evW (eVar 2)) (eaNil))) (eaNil))) (eaNil)))))) (fNx)
@[irreducible] def b_9 : Ev Fl := fRet (eBf (b1 dTup) (eaCons (evW (eVar 1)) (eaNil)))
theorem b__eq : c__law_bent = fSeq b_1 (fSeq b_2 (fSeq b_3 (fSeq b_4 (fSeq b_5 (fSeq b_6 (fSeq b_7 (fSeq b_8 (b_9)))))))) := by
  unfold c__law_bent b_1 b_2 b_3 b_4 b_5 b_6 b_7 b_8 b_9
  rfl
@[irreducible] def r_1 : Ev Fl := fPar 1 2 (eaCons (evW (eCallK f__law_names (fun ws _ => ws) 3 0 (eaCons (evN (eVar 0)) (eaCons (evW (eC (.str "abz019"))) (eaCons (evW (eC (.int 5))) (eaNil)))) (eaNil))) (eaCons (evW (eCallK f__law_names (fun ws _ => ws) 3 0 (eaCons (evN (eVar 0)) (eaCons (evW (eC (.str "abyz"))) (eaCons (evW (eC (.int 3))) (eaNil)))) (eaNil))) (eaNil)))
@[irreducible] def r_2 : Ev Fl := fSet 3 (evW (eCallK f__law_each (fun ws _ => ws) 1 0 (eaCons (evW (eCallK f__law_edges (fun ws _ => ws) 4 0 (eaCons (evN (eVar 0)) (eaCons (evW (eVar 1)) (eaCons (evW (eVar 2)) (eaCons (evW (eOp (opAdd) (eC (.int 1)) (eCallK f__law_take (fun ws _ => ws) 2 0 (eaCons (evN (eVar 0)) (eaCons (evW (eC (.int 8))) (eaNil))) (eaNil)))) (eaNil))))) (eaNil))) (eaNil)) (eaNil)))
@[irreducible] def r_3 : Ev Fl := fSet 4 (evW (eMake 7 f_Graph_QinitQ gApp 2 1 (eaCons (evW (eVar 3)) (eaNil)) (eaCons (evW (eVar 1)) (eaNil))))
@[irreducible] def r_4 : Ev Fl := fFor (iRange1 (eaCons (evW (eC (.int 12))) (eaNil))) (kName 5) (fSeq (fSet 6 (evW (eCallK f__law_of (fun ws _ => ws) 2 0 (eaCons (evN (eVar 0)) (eaCons (evW (eVar 1)) (eaNil))) (eaNil)))) (fSeq (fAsg (evD (eCallK f__law_drawn (fun ws _ => ws) 3 0 (eaCons (evN (eVar 0)) (eaCons (evW (eVar 3)) (eaCons (evW (eVar 6)) (eaNil)))) (eaNil))) (kTup (kCons (kName 7) (kCons (kName 8) (kNil))))) (fSeq (fIf (eOpT (opEq true) (eCallK f_word_of (fun ws _ => ws) 1 0 (eaCons (evW (eBf (b1 dTup) (eaCons (evW (eVar 7)) (eaNil)))) (eaNil)) (eaNil)) (eBf (b1 dTup) (eaCons (evW (eComp (iSrc (eVar 7)) (kName 17) [17] (fYes) (evW (eIx (eVar 17) (eC (.int 1)))))) (eaNil)))) (fRet (eC (.bl false))) (fNx)) (fSeq (fSet 9 (evW (eIf (eOpT (opEq false) (eCallK f__law_take (fun ws _ => ws) 2 0 (eaCons (evN (eVar 0)) (eaCons (evW (eC (.int 3))) (eaNil))) (eaNil)) (eC (.int 0))) (eCallK f__law_bent (fun ws _ => ws) 3 0 (eaCons (evN (eVar 0)) (eaCons (evW (eVar 7)) (eaCons (evW (eVar 3)) (eaNil)))) (eaNil)) (eBf (b1 dTup) (eaCons (evW (eVar 7)) (eaNil)))))) (fSeq (fIf (eOpT (opEq false) (eCallK f__law_take (fun ws _ => ws) 2 0 (eaCons (evN (eVar 0)) (eaCons (evW (eC (.int 6))) (eaNil))) (eaNil)) (eC (.int 0))) (fSet 6 (evW (eCallK f__law_of (fun ws _ => ws) 2 0 (eaCons (evN (eVar 0)) (eaCons (evW (eVar 1)) (eaNil))) (eaNil)))) (fNx)) (fSeq (fIf (eOpT (opEq false) (eCallK f__law_take (fun ws _ => ws) 2 0 (eaCons (evN (eVar 0)) (eaCons (evW (eC (.int 6))) (eaNil))) (eaNil)) (eC (.int 0))) (fSet 8 (evW (eCallK f__law_of (fun ws _ => ws) 2 0 (eaCons (evN (eVar 0)) (eaCons (evW (eVar 1)) (eaNil))) (eaNil)))) (fNx)) (fSeq (fSet 10 (evW (eLst (eaCons (evW (eCallK f_is_way (fun us ws => us ++ ([.d (.str "walk")] ++ ws)) 4 0 (eaCons (evW (eVar 9)) (eaCons (evW (eVar 4)) (eaCons (evW (eVar 6)) (eaCons (evW (eVar 8)) (eaNil))))) (eaNil))) (eaNil))))) (fSeq (fSet 10 (evW (eOp (opAdd) (eVar 10) (eComp (iSrc (eLst (eaCons (evW (eC (.str "walk"))) (eaCons (evW (eC (.str "trail"))) (eaCons (evW (eC (.str "path"))) (eaNil)))))) (kName 15) [15] (fYes) (evW (eCallK f_is_way gApp 4 1 (eaCons (evW (eVar 9)) (eaCons (evW (eVar 4)) (eaCons (evW (eVar 6)) (eaCons (evW (eVar 8)) (eaNil))))) (eaCons (evW (eVar 15)) (eaNil)))))))) (fSeq (fIf (eOpT (opEq true) (eVar 10) (eComp (iSrc (eLst (eaCons (evW (eC (.int 0))) (eaCons (evW (eC (.int 0))) (eaCons (evW (eC (.int 1))) (eaCons (evW (eC (.int 2))) (eaNil))))))) (kName 16) [16] (fYes) (evW (eCallK f__law_fits (fun ws _ => ws) 5 0 (eaCons (evW (eVar 9)) (eaCons (evW (eVar 3)) (eaCons (evW (eVar 6)) (eaCons (evW (eVar 8)) (eaCons (evW (eVar 16)) (eaNil)))))) (eaNil))))) (fRet (eC (.bl false))) (fNx)) (fIf (eOpT (opEq true) (eComp (iSrc (eVar 10)) (kName 15) [15] (eAndT (eOpT (opIsB true) (eVar 15) (eC (.bl true))) (eOpT (opIsB true) (eVar 15) (eC (.bl false)))) (evW (eVar 15))) (eLst (eaNil))) (fRet (eC (.bl false))) (fNx)))))))))))
@[irreducible] def r_5 : Ev Fl := fSet 11 (evW (eCallK f__law_of (fun ws _ => ws) 2 0 (eaCons (evN (eVar 0)) (eaCons (evW (eLst (eaCons (evW (eC (.str "walks"))) (eaCons (evW (eC (.str ""))) (eaCons (evW (eC .non)) (eaCons (evW (eC (.int 0))) (eaCons (evW (eLst (eaCons (evW (eC (.str "walk"))) (eaNil)))) (eaCons (evW (eC (.str "WALK"))) (eaCons (evW (eC (.bl true))) (eaNil)))))))))) (eaNil))) (eaNil)))
@[irreducible] def r_6 : Ev Fl := fSet 12 (evW (eCallK f__law_of (fun ws _ => ws) 2 0 (eaCons (evN (eVar 0)) (eaCons (evW (eLst (eaCons (evW (eC (.str "A"))) (eaCons (evW (eC .non)) (eaCons (evW (eC (.int 7))) (eaCons (evW (eC (.str "zzzzzzzzz"))) (eaCons (evW (eLst (eaCons (evW (eC (.str "a"))) (eaNil)))) (eaCons (evW (eC (.str ""))) (eaNil))))))))) (eaNil))) (eaNil)))
@[irreducible] def r_7 : Ev Fl := fSet 13 (evW (eCallK f__law_of (fun ws _ => ws) 2 0 (eaCons (evN (eVar 0)) (eaCons (evW (eVar 1)) (eaNil))) (eaNil)))
@[irreducible] def r_8 : Ev Fl := fSet 14 (evW (eLst (eaCons (evW (eTup (eaCons (evC (eC (.str "manner"))) (eaCons (evC (eVar 11)) (eaNil))))) (eaCons (evW (eTup (eaCons (evC (eC (.str "manner"))) (eaCons (evC (eVar 11)) (eaNil))))) (eaCons (evW (eTup (eaCons (evC (eC (.str "node"))) (eaCons (evC (eVar 12)) (eaNil))))) (eaCons (evW (eTup (eaCons (evC (eC (.str "node"))) (eaCons (evC (eVar 12)) (eaNil))))) (eaCons (evW (eTup (eaNil))) (eaNil))))))))
@[irreducible] def r_9 : Ev Fl := fSet 10 (evW (eLst (eaCons (evW (eCallK f__law_refused (fun ws _ => ws) 5 0 (eaCons (evW (eTup (eaNil))) (eaCons (evW (eVar 4)) (eaCons (evW (eVar 13)) (eaCons (evW (eVar 13)) (eaCons (evW (eVar 11)) (eaNil)))))) (eaNil))) (eaCons (evW (eCallK f__law_refused (fun ws _ => ws) 5 0 (eaCons (evW (eC (.int 5))) (eaCons (evW (eVar 4)) (eaCons (evW (eVar 12)) (eaCons (evW (eVar 12)) (eaCons (evW (eVar 11)) (eaNil)))))) (eaNil))) (eaNil)))))
@[irreducible] def r_10 : Ev Fl := fSet 10 (evW (eOp (opAdd) (eVar 10) (eLst (eaCons (evW (eCallK f__law_refused (fun ws _ => ws) 5 0 (eaCons (evW (eTup (eaNil))) (eaCons (evW (eVar 4)) (eaCons (evW (eVar 12)) (eaCons (evW (eNeg (eC (.int 1)))) (eaCons (evW (eC (.str "path"))) (eaNil)))))) (eaNil))) (eaCons (evW (eCallK f__law_refused (fun ws _ => ws) 5 0 (eaCons (evW (eTup (eaNil))) (eaCons (evW (eVar 4)) (eaCons (evW (eVar 13)) (eaCons (evW (eVar 12)) (eaCons (evW (eC (.str "trail"))) (eaNil)))))) (eaNil))) (eaNil))))))
@[irreducible] def r_11 : Ev Fl := fRet (eOpE (opEq false) (eBf (b1 dReprA) (eaCons (evW (eOp (opAdd) (eVar 10) (eLst (eaCons (evW (eCallK f__law_refused (fun ws _ => ws) 5 0 (eaCons (evW (eTup (eaNil))) (eaCons (evW (eVar 4)) (eaCons (evW (eVar 13)) (eaCons (evW (eVar 13)) (eaCons (evW (eC (.str "path"))) (eaNil)))))) (eaNil))) (eaNil))))) (eaNil))) (eBf (b1 dReprA) (eaCons (evW (eVar 14)) (eaNil))))
theorem r__eq : c__law_is_right = fSeq r_1 (fSeq r_2 (fSeq r_3 (fSeq r_4 (fSeq r_5 (fSeq r_6 (fSeq r_7 (fSeq r_8 (fSeq r_9 (fSeq r_10 (r_11)))))))))) := by
  unfold c__law_is_right r_1 r_2 r_3 r_4 r_5 r_6 r_7 r_8 r_9 r_10 r_11
  rfl
@[irreducible] def q_1 : Ev Fl := fSet 6 (evW (eCallK f__law_of (fun ws _ => ws) 2 0 (eaCons (evN (eVar 0)) (eaCons (evW (eVar 1)) (eaNil))) (eaNil)))
@[irreducible] def q_2 : Ev Fl := fAsg (evD (eCallK f__law_drawn (fun ws _ => ws) 3 0 (eaCons (evN (eVar 0)) (eaCons (evW (eVar 3)) (eaCons (evW (eVar 6)) (eaNil)))) (eaNil))) (kTup (kCons (kName 7) (kCons (kName 8) (kNil))))
@[irreducible] def q_3 : Ev Fl := fIf (eOpT (opEq true) (eCallK f_word_of (fun ws _ => ws) 1 0 (eaCons (evW (eBf (b1 dTup) (eaCons (evW (eVar 7)) (eaNil)))) (eaNil)) (eaNil)) (eBf (b1 dTup) (eaCons (evW (eComp (iSrc (eVar 7)) (kName 17) [17] (fYes) (evW (eIx (eVar 17) (eC (.int 1)))))) (eaNil)))) (fRet (eC (.bl false))) (fNx)
@[irreducible] def q_4 : Ev Fl := fSet 9 (evW (eIf (eOpT (opEq false) (eCallK f__law_take (fun ws _ => ws) 2 0 (eaCons (evN (eVar 0)) (eaCons (evW (eC (.int 3))) (eaNil))) (eaNil)) (eC (.int 0))) (eCallK f__law_bent (fun ws _ => ws) 3 0 (eaCons (evN (eVar 0)) (eaCons (evW (eVar 7)) (eaCons (evW (eVar 3)) (eaNil)))) (eaNil)) (eBf (b1 dTup) (eaCons (evW (eVar 7)) (eaNil)))))
@[irreducible] def q_5 : Ev Fl := fIf (eOpT (opEq false) (eCallK f__law_take (fun ws _ => ws) 2 0 (eaCons (evN (eVar 0)) (eaCons (evW (eC (.int 6))) (eaNil))) (eaNil)) (eC (.int 0))) (fSet 6 (evW (eCallK f__law_of (fun ws _ => ws) 2 0 (eaCons (evN (eVar 0)) (eaCons (evW (eVar 1)) (eaNil))) (eaNil)))) (fNx)
@[irreducible] def q_6 : Ev Fl := fIf (eOpT (opEq false) (eCallK f__law_take (fun ws _ => ws) 2 0 (eaCons (evN (eVar 0)) (eaCons (evW (eC (.int 6))) (eaNil))) (eaNil)) (eC (.int 0))) (fSet 8 (evW (eCallK f__law_of (fun ws _ => ws) 2 0 (eaCons (evN (eVar 0)) (eaCons (evW (eVar 1)) (eaNil))) (eaNil)))) (fNx)
@[irreducible] def q_7 : Ev Fl := fSet 10 (evW (eLst (eaCons (evW (eCallK f_is_way (fun us ws => us ++ ([.d (.str "walk")] ++ ws)) 4 0 (eaCons (evW (eVar 9)) (eaCons (evW (eVar 4)) (eaCons (evW (eVar 6)) (eaCons (evW (eVar 8)) (eaNil))))) (eaNil))) (eaNil))))
@[irreducible] def q_8 : Ev Fl := fSet 10 (evW (eOp (opAdd) (eVar 10) (eComp (iSrc (eLst (eaCons (evW (eC (.str "walk"))) (eaCons (evW (eC (.str "trail"))) (eaCons (evW (eC (.str "path"))) (eaNil)))))) (kName 15) [15] (fYes) (evW (eCallK f_is_way gApp 4 1 (eaCons (evW (eVar 9)) (eaCons (evW (eVar 4)) (eaCons (evW (eVar 6)) (eaCons (evW (eVar 8)) (eaNil))))) (eaCons (evW (eVar 15)) (eaNil)))))))
@[irreducible] def q_9 : Ev Fl := fIf (eOpT (opEq true) (eVar 10) (eComp (iSrc (eLst (eaCons (evW (eC (.int 0))) (eaCons (evW (eC (.int 0))) (eaCons (evW (eC (.int 1))) (eaCons (evW (eC (.int 2))) (eaNil))))))) (kName 16) [16] (fYes) (evW (eCallK f__law_fits (fun ws _ => ws) 5 0 (eaCons (evW (eVar 9)) (eaCons (evW (eVar 3)) (eaCons (evW (eVar 6)) (eaCons (evW (eVar 8)) (eaCons (evW (eVar 16)) (eaNil)))))) (eaNil))))) (fRet (eC (.bl false))) (fNx)
@[irreducible] def q_10 : Ev Fl := fIf (eOpT (opEq true) (eComp (iSrc (eVar 10)) (kName 15) [15] (eAndT (eOpT (opIsB true) (eVar 15) (eC (.bl true))) (eOpT (opIsB true) (eVar 15) (eC (.bl false)))) (evW (eVar 15))) (eLst (eaNil))) (fRet (eC (.bl false))) (fNx)
theorem q__eq : r_4 = fFor (iRange1 (eaCons (evW (eC (.int 12))) (eaNil))) (kName 5) (fSeq q_1 (fSeq q_2 (fSeq q_3 (fSeq q_4 (fSeq q_5 (fSeq q_6 (fSeq q_7 (fSeq q_8 (fSeq q_9 (q_10)))))))))) := by
  unfold r_4 q_1 q_2 q_3 q_4 q_5 q_6 q_7 q_8 q_9 q_10
  rfl
end L_k06

set_option maxHeartbeats 2000000
set_option exponentiation.threshold 3000
namespace L_k06
open PySem PyProof.Rows L2 He Pm
@[simp] theorem slD_lst {ds : List D} {lo hi : Option Int} : slD (.lst ds) lo hi = some (.new (.lst ((Pm.cutD ds lo hi).map .d))) := rfl
theorem cutD_mem {ds : List D} {lo hi : Option Int} {x : D} (h : x ∈ Pm.cutD ds lo hi) : x ∈ ds := by
  unfold Pm.cutD at h
  exact List.mem_of_mem_drop (List.mem_of_mem_take h)
theorem cutD_len {ds : List D} {lo hi : Option Int} : (Pm.cutD ds lo hi).length ≤ ds.length := by
  unfold Pm.cutD
  simp
  omega
section
variable {M : List (Option Cell)} {es ps way : List D} {i n : Nat} {c : Cell} {node : D}
structure HasBag (M : List (Option Cell)) (i n : Nat) : Prop where
  ex : ∃ c, M[i]? = some (some c) ∧ BagOk n c
theorem HasBag.up {M : List (Option Cell)} {i n m : Nat} (h : HasBag M i n) (q : n ≤ m) : HasBag M i m := by
  obtain ⟨c, h1, h2⟩ := h.ex
  exact ⟨c, h1, h2.up q⟩
theorem bag_thaw {n k : Nat} {c : Cell} {x : D} (B : BagOk n c) : c.thaw k x = c := by
  obtain ⟨a, b, d, rfl, _⟩ := B.ex
  rfl
theorem close_last {sl : List Sl} {A : List (Option Cell)} {ds : List D} {k b : Nat} (hk : A.length = k) : close k ⟨sl, A ++ [some (.lst (ds.map .d))], b⟩ = some (.lst ds, ⟨sl.map (Sl.thaw k (.lst ds)), (A ++ [none]).map (Option.map (Cell.thaw k (.lst ds))), b⟩) := by
  subst hk
  have e : (A ++ [some (Cell.lst (ds.map W.d))])[A.length]? = some (some (.lst (ds.map .d))) := by simp
  have fr : (Cell.lst (ds.map W.d)).frz = some (.lst ds) := by simp [Cell.frz, dats_all]
  unfold close
  dsimp only
  rw [e]
  dsimp only
  rw [fr]
  dsimp only
  unfold close1
  dsimp only
  rw [e]
  dsimp only
  rw [fr]
  dsimp only
  rw [set_app2 rfl]
  try rfl
def DrInv (M : List (Option Cell)) (i n : Nat) (es ps : List D) (j : Nat) (s : S) : Prop := ∃ (way : List D) (c' : Cell) (nd : D) (t u : Sl), s = ⟨[.w (.loc i), .w (.d (.lst es)), .w (.d nd), .w (.loc M.length), t, u, .no], M.set i (some c') ++ [some (.lst (way.map .d))], M.length⟩ ∧
  (nd ∈ ps ∧ ∀ e ∈ way, e ∈ es) ∧ way.length ≤ j ∧ BagOk (n + 1 + j) c'
theorem drawn_spec (HB : HasBag M i n) (hn : n ≤ 900000) (G : GG ps es) (hnd : node ∈ ps) : Fw (f__law_drawn [.loc i, .d (.lst es), .d node] M) fun r M' => ∃ way nd, r = .d (.tup [.lst way, nd]) ∧ (nd ∈ ps ∧ ∀ e ∈ way, e ∈ es) ∧ way.length ≤ 6 ∧ HasBag M' i (n + 7) := by
  obtain ⟨c, h, B⟩ := HB.ex
  have big := big
  have hi := bag_at h
  unfold f__law_drawn
  rw [fw_fn]
  unfold c__law_drawn
  generalize hf : f__law_of = fs
  simp [-Prod.exists]
  refine (take_spec (m := 7) (get_app hi ▸ h) B (by omega) (by decide) (by decide)).mono fun r M1 ⟨k, c1, e, k0, k1, eM, B1⟩ => ?_
  subst e eM
  rw [set_app hi]
  have sk : smallI k = true := decide_eq_true ⟨by omega, by omega⟩
  simp [-Prod.exists, sk]
  have ge : ∀ e ∈ es, goodE e := G.g
  refine wp_loop (DrInv M i n es ps) ⟨[], c1, node, .no, .no, rfl, ⟨hnd, by simp⟩, by simp, B1⟩ ?_ ?_
  · rintro j d s hd ⟨way, c2, nd, t, u, rfl, ⟨hnd2, hway⟩, hl, B2⟩
    obtain ⟨rfl, hj⟩ := rngD_get hd
    have hj6 : j < 6 := by omega
    refine ⟨_, rfl, ?_⟩
    simp [-Prod.exists]
    generalize hst : (⟨[.w (.loc i), .w (.d (.lst es)), .w (.d nd), .w (.loc M.length), .w (.d (.int j)), u, .no], M.set i (some c2) ++ [some (.lst (way.map .d))], M.length⟩ : S) = st
    refine wp_compP (fun s => ∃ z, s = ⟨[.w (.loc i), .w (.d (.lst es)), .w (.d nd), .w (.loc M.length), .w (.d (.int j)), u, z], M.set i (some c2) ++ [some (.lst (way.map .d))], M.length⟩) (fun e => dEq (srcE e) nd) id ?_
    subst hst
    simp [-Prod.exists]
    have lM : (M.set i (some c2)).length = M.length := by simp
    have hi2 : i < (M.set i (some c2)).length := by omega
    have hst : ∀ d ∈ es, ∃ a, ixD d (.int 0) = some (.d a) ∧ opEq false a nd = some (dEq a nd) ∧ srcE d = a := fun d hd => by
      obtain ⟨a, l, b, rfl, ga, _, gb⟩ := ge d hd
      obtain ⟨w, rfl, gw⟩ := G.hq nd hnd2
      have k : ∀ {w : Str}, goodN w → PyData.strOk w = true := fun q => strOk_of q.2.2 (by decide +kernel)
      refine ⟨.str a, rfl, ?_, rfl⟩
      rw [opEq_strs (k ga) (k gw)]
      show some (false ^^ (a == w)) = some (a == w)
      simp
    refine ⟨by have := G.lt; omega, fun d hd => ?_, ?_⟩
    · obtain ⟨a, e1, e2, e3⟩ := hst d hd
      subst e3
      refine ⟨_, e1, ?_⟩
      simp [-Prod.exists, e2]
    · have g2 : (M.set i (some c2) ++ [some (.lst (way.map W.d))])[M.length]? = some (some (.lst (way.map W.d))) := by rw [get_app2 lM]; rfl
      have hmo : ∀ x ∈ es.filter (fun e => dEq (srcE e) nd), x ∈ es := fun x hx => (List.mem_filter.mp hx).1
      have lo : (es.filter (fun e => dEq (srcE e) nd)).length ≤ es.length := List.length_filter_le _ _
      generalize es.filter (fun e => dEq (srcE e) nd) = out at *
      have ko : okM 8 out := goodE.okM fun e he => ge e (hmo e he)
      have nil8 : okM 8 [] := fun x hx => by cases hx
      have oe := opEq_lst (neg := true) ko nil8
      cases out with
      | nil =>
        refine .inl ⟨by rw [oe]; rfl, way, c2, nd, _, _, rfl, ⟨hnd2, hway⟩, by omega, B2.up (by omega)⟩
      | cons o1 os =>
        refine .inr ⟨by rw [oe]; rfl, by rw [lstAt_loc g2]; rfl, ?_⟩
        have h1 : (M.set i (some c2) ++ [some (Cell.lst (way.map W.d))])[i]? = some (some c2) := by rw [get_app hi2, get_set hi]
        have le := G.lt
        subst hf
        refine (of_spec h1 B2 (by omega) (xs := o1 :: os) (by simp) (by omega)).mono fun r M' ⟨x, c', e1, hx, e2, B3⟩ => ?_
        subst e1 e2
        rw [set_app hi2]
        simp only [set_set']
        have lM3 : (M.set i (some c')).length = M.length := by simp
        have g3 : (M.set i (some c') ++ [some (.lst (way.map W.d))])[M.length]? = some (some (.lst (way.map W.d))) := by rw [get_app2 lM3]; rfl
        have g4 : (M.set i (some c') ++ [some (.lst ((way ++ [x]).map W.d))])[M.length]? = some (some (.lst ((way ++ [x]).map W.d))) := by rw [get_app2 lM3]; rfl
        have hxe := hmo x hx
        obtain ⟨a, l, b, q1, q2, q3, q4⟩ := G.he x hxe
        have la : atI ((way ++ [x]).map W.d) (-1) = some (.d x) := getLast_atI (by simp)
        have z0 : way.length < sizeLine := by omega
        have fin : DrInv M i n es ps (j + 1) ⟨[.w (.loc i), .w (.d (.lst es)), .w (.d (.str b)), .w (.loc M.length), .w (.d (.int j)), .w (.d (.lst (o1 :: os))), .no], M.set i (some c') ++ [some (.lst ((way ++ [x]).map .d))], M.length⟩ :=
          ⟨way ++ [x], c', .str b, _, _, rfl, ⟨q4, fun e he => by
            rcases List.mem_append.mp he with q | q
            · exact hway e q
            · rw [List.mem_singleton.mp q]; exact hxe⟩, by simp; omega, B3.up (by omega)⟩
        subst q1
        simp only [List.map_append, List.map_cons, List.map_nil] at fin la g4
        simp [-Prod.exists, lstAt_loc g3, stAppend, z0, set_app2 lM3, ixM_loc g4, la, ix2, fin]
  · rintro s ⟨way, c2, nd, t, u, rfl, ⟨hnd2, hway⟩, hl, B2⟩
    rw [rngD_len] at hl B2
    have lM : (M.set i (some c2)).length = M.length := by simp
    have th : ∀ k x y, Pm.thaw k x (.d y) = .d y := fun k x y => rfl
    simp [-Prod.exists, close_last lM, Sl.thaw, th]
    refine ⟨by omega, way, nd, ⟨rfl, rfl⟩, ⟨hnd2, hway⟩, by omega, ⟨c2, ?_, B2.up (by omega)⟩⟩
    rw [List.getElem?_set_self (by simpa using hi), bag_thaw B2]
end
end L_k06

set_option maxHeartbeats 2000000
set_option exponentiation.threshold 3000
namespace L_k06
open PySem PyProof.Rows L2 He Pm
section
variable {M : List (Option Cell)} {es ps way : List D} {i n m : Nat} {c : Cell} {k : Int} {z : Sl} {b : Nat}
/-- the value, however it comes -/
def Rv (r : Res) (x : D) : Prop := r = .d x ∨ ∃ ws, r = .new (.lst (ws.map .d)) ∧ x = .lst ws
def WayOk (m : Nat) (way : List D) : Prop := (∀ e ∈ way, goodE e) ∧ way.length ≤ m
theorem WayOk.ok (h : WayOk m way) : okM 8 way := goodE.okM h.1
theorem WayOk.le {m' : Nat} (h : WayOk m way) (q : m ≤ m') : WayOk m' way := ⟨h.1, Nat.le_trans h.2 q⟩
def bS (i : Nat) (way es : List D) (k : Int) (z : Sl) (M : List (Option Cell)) (b : Nat) : S := ⟨[.w (.loc i), .w (.d (.lst way)), .w (.d (.lst es)), .w (.d (.int k)), z], M, b⟩
theorem way_ne (h : okM 8 way) : opEq true (.lst way) (.lst []) = some (!way.isEmpty) := by
  have nil8 : okM 8 [] := fun x hx => by cases hx
  rw [opEq_lst h nil8]
  cases way <;> rfl
theorem take_b {w : Int} (HB : HasBag M i n) (hn : n ≤ 900000) (h0 : 0 < w) (h1 : w < 1000000) : Fw (f__law_take [.loc i, .d (.int w)] M) fun r M' => ∃ k, r = .d (.int k) ∧ 0 ≤ k ∧ k < w ∧ HasBag M' i (n + 1) ∧ M'.length = M.length := by
  obtain ⟨c, h, B⟩ := HB.ex
  refine (take_spec h B (by omega) h0 h1).mono fun r M' ⟨k, c', e1, k0, k1, e2, B'⟩ => ?_
  subst e2
  exact ⟨k, e1, k0, k1, ⟨c', get_set (bag_at h), B'⟩, by simp⟩
theorem of_b {xs : List D} (HB : HasBag M i n) (hn : n ≤ 900000) (h0 : 0 < xs.length) (h1 : xs.length < 1000000) : Fw (f__law_of [.loc i, .d (.lst xs)] M) fun r M' => ∃ x, r = .d x ∧ x ∈ xs ∧ HasBag M' i (n + 1) ∧ M'.length = M.length := by
  obtain ⟨c, h, B⟩ := HB.ex
  refine (of_spec h B (by omega) h0 h1).mono fun r M' ⟨x, c', e1, hx, e2, B'⟩ => ?_
  subst e2
  exact ⟨x, e1, hx, ⟨c', get_set (bag_at h), B'⟩, by simp⟩
/-- what is kept of the way up to the sort j -/
def WI (j k : Int) (way : List D) : Prop := WayOk 13 way ∧ (j ≤ k → WayOk 6 way)
theorem WI.skip {j j' : Int} (h : WI j k way) (hk : k ≠ j) (e : j' = j + 1 := by rfl) : WI j' k way := ⟨h.1, fun q => h.2 (by omega)⟩
theorem WI.hit {j' : Int} {way' : List D} (hk : k < j') (h : WayOk 13 way') : WI j' k way' := ⟨h, fun q => by omega⟩
theorem cat_ok {a b : List D} {l m : Nat} (ha : ∀ e ∈ a, e ∈ way) (hb : ∀ e ∈ b, goodE e) (la : a.length ≤ l) (lb : b.length ≤ m) (W : ∀ e ∈ way, goodE e) (h : l + m ≤ 13) : WayOk 13 (a ++ b) := ⟨fun e he => by
  rcases List.mem_append.mp he with q | q
  · exact W e (ha e q)
  · exact hb e q, by simp; omega⟩
theorem b2_spec (W : WI 0 k way) : Wp (b_2 (bS i way es k z M b)) fun fl s => fl = .nx ∧ ∃ way', s = bS i way' es k z M b ∧ WI 1 k way' := by
  have big := big
  have e0 := way_ne W.1.ok
  unfold b_2 bS
  by_cases hk : k = 0
  · subst hk
    have W6 := W.2 (by omega)
    cases hw : way.isEmpty with
    | true =>
      rw [hw] at e0
      simp [-Prod.exists, e0]
      exact WI.hit (by omega) (W6.le (by omega))
    | false =>
      rw [hw] at e0
      have l3 : (Pm.cutD way (some (-1)) none).length ≤ way.length := cutD_len
      have hp : ∀ y ∈ Pm.cutD way (some (-1)) none, y ∈ way := fun y hy => cutD_mem hy
      have hl := W6.2
      generalize hA : Pm.cutD way (some (-1)) none = A at *
      have e1 := opAdd_lst (a := way) (b := A) (by omega)
      simp [-Prod.exists, -List.map_append, e0, Cell.frz, dats_all, hA, e1]
      exact WI.hit (by omega) (cat_ok (m := 6) (fun e h => h) (fun e h => W6.1 e (hp e h)) hl (by omega) W6.1 (by decide))
  · simp [-Prod.exists, hk]
    exact W.skip hk
theorem b3_spec (HB : HasBag M i n) (hn : n ≤ 900000) (W : WI 1 k way) : Wp (b_3 (bS i way es k z M b)) fun fl s => fl = .nx ∧ ∃ way' z' M', s = bS i way' es k z' M' b ∧ WI 2 k way' ∧ HasBag M' i (n + 1) ∧ M'.length = M.length := by
  have big := big
  have e0 := way_ne W.1.ok
  unfold b_3 bS
  by_cases hk : k = 1
  · subst hk
    have W6 := W.2 (by omega)
    have hl := W6.2
    cases hw : way.isEmpty with
    | true =>
      rw [hw] at e0
      simp [-Prod.exists, e0]
      exact ⟨way, z, M, by simp, WI.hit (by omega) (W6.le (by omega)), HB.up (by omega), rfl⟩
    | false =>
      rw [hw] at e0
      have hne : 0 < way.length := by cases way <;> simp at hw ⊢
      generalize hf : f__law_take = ft
      simp [-Prod.exists, e0]
      subst hf
      refine (take_b (w := way.length) HB hn (by omega) (by omega)).mono fun r M' ⟨p, e1, p0, p1, B', lM⟩ => ?_
      subst e1
      have l2 : (Pm.cutD way none (some p)).length ≤ way.length := cutD_len
      have l3 : (Pm.cutD way (some (p + 1)) none).length ≤ way.length := cutD_len
      have hp : ∀ y ∈ Pm.cutD way none (some p), y ∈ way := fun y hy => cutD_mem hy
      have hp2 : ∀ y ∈ Pm.cutD way (some (p + 1)) none, y ∈ way := fun y hy => cutD_mem hy
      generalize hA : Pm.cutD way none (some p) = A at *
      generalize hC : Pm.cutD way (some (p + 1)) none = C at *
      have e1 := opAdd_lst (a := A) (b := C) (by omega)
      simp [-Prod.exists, -List.map_append, Cell.frz, dats_all, hA, hC, e1]
      exact ⟨A ++ C, _, M', ⟨⟨rfl, rfl⟩, rfl⟩, WI.hit (by omega) (cat_ok (l := 6) (m := 6) hp (fun e h => W6.1 e (hp2 e h)) (by omega) (by omega) W6.1 (by decide)), B', lM⟩
  · simp [-Prod.exists, hk]
    exact ⟨way, z, M, by simp, W.skip hk, HB.up (by omega), rfl⟩
theorem rev_good {a l b : Str} (h : goodE (.tup [.str a, .str l, .str b])) : goodE (.tup [.str b, .str l, .str a]) := by
  obtain ⟨x, y, z, e, h1, h2, h3⟩ := h
  cases e
  exact ⟨_, _, _, rfl, h3, h2, h1⟩
theorem b4_spec (HB : HasBag M i n) (hn : n ≤ 900000) (W : WI 2 k way) : Wp (b_4 (bS i way es k z M b)) fun fl s => fl = .nx ∧ ∃ way' z' M', s = bS i way' es k z' M' b ∧ WI 3 k way' ∧ HasBag M' i (n + 1) ∧ M'.length = M.length := by
  have big := big
  have e0 := way_ne W.1.ok
  unfold b_4 bS
  by_cases hk : k = 2
  · subst hk
    have W6 := W.2 (by omega)
    have hl := W6.2
    cases hw : way.isEmpty with
    | true =>
      rw [hw] at e0
      simp [-Prod.exists, e0]
      exact ⟨way, z, M, by simp, WI.hit (by omega) (W6.le (by omega)), HB.up (by omega), rfl⟩
    | false =>
      rw [hw] at e0
      have hne : 0 < way.length := by cases way <;> simp at hw ⊢
      generalize hf : f__law_take = ft
      simp [-Prod.exists, e0]
      subst hf
      refine (take_b (w := way.length) HB hn (by omega) (by omega)).mono fun r M' ⟨p, e1, p0, p1, B', lM⟩ => ?_
      subst e1
      obtain ⟨x, ex, hx⟩ := atI_mem p0 p1
      obtain ⟨sa, sl, sb, rfl, ga, gl, gb⟩ := W6.1 x hx
      have gR := rev_good (W6.1 _ hx)
      have l2 : (Pm.cutD way none (some p)).length ≤ way.length := cutD_len
      have l3 : (Pm.cutD way (some (p + 1)) none).length ≤ way.length := cutD_len
      have hp : ∀ y ∈ Pm.cutD way none (some p), y ∈ way := fun y hy => cutD_mem hy
      have hp2 : ∀ y ∈ Pm.cutD way (some (p + 1)) none, y ∈ way := fun y hy => cutD_mem hy
      generalize hA : Pm.cutD way none (some p) = A at *
      generalize hC : Pm.cutD way (some (p + 1)) none = C at *
      have e1 := opAdd_lst (a := A) (b := [D.tup [.str sb, .str sl, .str sa]]) (by simp; omega)
      have e2 := opAdd_lst (a := A ++ [D.tup [.str sb, .str sl, .str sa]]) (b := C) (by simp; omega)
      simp [-Prod.exists, -List.map_append, -List.append_assoc, Cell.frz, dats_all, hA, hC, e1, e2, ex, ix0, ix1, ix2, dats]
      refine ⟨by omega, by omega, A ++ [D.tup [.str sb, .str sl, .str sa]] ++ C, _, M', ⟨⟨rfl, rfl⟩, rfl⟩, WI.hit (by omega) ?_, B', lM⟩
      rw [List.append_assoc]
      exact cat_ok (l := 6) (m := 7) hp (fun e h => by
        rcases List.mem_append.mp h with q | q
        · rw [List.mem_singleton.mp q]; exact gR
        · exact W6.1 e (hp2 e q)) (by omega) (by simp; omega) W6.1 (by decide)
  · simp [-Prod.exists, hk]
    exact ⟨way, z, M, by simp, W.skip hk, HB.up (by omega), rfl⟩
theorem b5_spec : Wp (b_5 (bS i way es k z M b)) fun fl s => (k ≠ 3 ∧ fl = .nx ∧ s = bS i way es k z M b) ∨ (k = 3 ∧ fl = .ret (.new (.lst (way.map .d))) ∧ s.M = M) := by
  have bl : bList M [.d (.lst way)] = some (.new (.lst (way.map .d))) := rfl
  unfold b_5 bS
  by_cases hk : k = 3
  · subst hk
    simp [-Prod.exists, bl]
  · simp [-Prod.exists, hk]
theorem b6_spec (W : WI 4 k way) : Wp (b_6 (bS i way es k z M b)) fun fl s => fl = .nx ∧ ∃ way', s = bS i way' es k z M b ∧ WI 5 k way' := by
  have rv : revM M (.d (.lst way)) = some (.new (.lst (way.reverse.map .d))) := rfl
  unfold b_6 bS
  by_cases hk : k = 4
  · subst hk
    have W6 := W.2 (by omega)
    simp [-Prod.exists, -List.map_reverse, rv, Cell.frz, dats_all]
    exact WI.hit (by omega) ⟨fun e he => W6.1 e (List.mem_reverse.mp he), by simp; have := W6.2; omega⟩
  · simp [-Prod.exists, hk]
    exact W.skip hk
theorem b8_spec (HB : HasBag M i n) (hn : n ≤ 900000) (ge : ∀ e ∈ es, goodE e) (h0 : 0 < es.length) (h1 : es.length < 1000) (W : WI 6 k way) : Wp (b_8 (bS i way es k z M b)) fun fl s => fl = .nx ∧ ∃ way' z' M', s = bS i way' es k z' M' b ∧ WayOk 13 way' ∧ HasBag M' i (n + 1) ∧ M'.length = M.length := by
  have big := big
  unfold b_8 bS
  by_cases hk : k = 6
  · subst hk
    have W6 := W.2 (by omega)
    have hl := W6.2
    generalize hf : f__law_of = ft
    simp [-Prod.exists]
    subst hf
    refine (of_b HB hn h0 (by omega)).mono fun r M' ⟨x, e1, hx, B', lM⟩ => ?_
    subst e1
    have e1 := opAdd_lst (a := way) (b := [x]) (by simp; omega)
    simp [-Prod.exists, -List.map_append, Cell.frz, dats_all, e1, dats]
    refine ⟨by omega, way ++ [x], _, M', ⟨⟨rfl, rfl⟩, rfl⟩, ?_, B', lM⟩
    exact cat_ok (l := 6) (m := 1) (fun e h => h) (fun e h => by rw [List.mem_singleton.mp h]; exact ge x hx) hl (by simp) W6.1 (by decide)
  · simp [-Prod.exists, hk]
    exact ⟨way, z, M, by simp, W.1, HB.up (by omega), rfl⟩
end
end L_k06

set_option maxHeartbeats 2000000
set_option exponentiation.threshold 3000
namespace L_k06
open PySem PyProof.Rows L2 He Pm
section
variable {M : List (Option Cell)} {es ps way : List D} {i n m : Nat} {c : Cell} {k : Int} {z : Sl} {b : Nat}
theorem El.good {e : D} (g : goodE e) : El e := ⟨by
  obtain ⟨s, l, t, rfl, h1, h2, h3⟩ := g
  intro x hx
  simp only [List.mem_cons, List.not_mem_nil, or_false] at hx
  rcases hx with rfl | rfl | rfl
  · exact .str (by have := h1.2.1; omega)
  · exact .str (by have := h2.2.1; omega)
  · exact .str (by have := h3.2.1; omega), okD_H (okH_mono e (by decide) (g.ok 7))⟩
theorem El.str {w : Str} (k : PyData.strOk w = true) (h : w.length ≤ 1000) : El (.str w) := ⟨.str h, k⟩
theorem okE3 {a l c : Str} (h : goodE (.tup [.str a, .str l, .str c])) : (PyData.strOk a = true ∧ a.length ≤ 8) ∧ (PyData.strOk l = true ∧ l.length ≤ 8) ∧ PyData.strOk c = true ∧ c.length ≤ 8 := by
  obtain ⟨x, y, z, e, h1, h2, h3⟩ := h
  cases e
  have k : ∀ {w : Str}, goodN w → PyData.strOk w = true := fun q => strOk_of q.2.2 (by decide +kernel)
  have k2 : ∀ {w : Str}, goodL w → PyData.strOk w = true := fun q => strOk_of q.2.2 (by decide +kernel)
  exact ⟨⟨k h1, h1.2.1⟩, ⟨k2 h2, h2.2.1⟩, k h3, h3.2.1⟩
theorem th_way (h : WayOk 13 way) : Th (.tup way) := .inr ⟨way, rfl, fun y hy => El.good (h.1 y hy), by have := h.2; omega⟩
theorem th_odd {a l c : Str} (h : goodE (.tup [.str a, .str l, .str c])) : ∀ x ∈ [D.non, .int 0, .str "", .tup [.str a, .str l, .str c], .lst [], .tup [.tup []], .tup [.tup [.str a, .str l]], .tup [.int 1, .int 2], .tup [.lst [.str a, .str l, .str c]]], Th x := by
  obtain ⟨⟨ka, la⟩, ⟨kl, ll⟩, kc, lc⟩ := okE3 h
  have no : ∀ {x : D}, (∀ M, bIsi isiTab M [.d x, .d (.ty "tuple")] = some (.d (.bl false))) → (∀ xs, x ≠ .tup xs) → Th x := fun h1 h2 => .inl ⟨h1, h2⟩
  have ye : ∀ {xs : List D}, (∀ y ∈ xs, El y) → xs.length ≤ 20 → Th (.tup xs) := fun h1 h2 => .inr ⟨_, rfl, h1, h2⟩
  have one : ∀ {y : D}, El y → ∀ z ∈ [y], El z := fun h z hz => by rw [List.mem_singleton.mp hz]; exact h
  intro x hx
  simp only [List.mem_cons, List.not_mem_nil, or_false] at hx
  rcases hx with rfl | rfl | rfl | rfl | rfl | rfl | rfl | rfl | rfl
  · exact no (fun _ => rfl) (fun _ e => nomatch e)
  · exact no (fun _ => rfl) (fun _ e => nomatch e)
  · exact no (fun _ => rfl) (fun _ e => nomatch e)
  · refine ye (fun y hy => ?_) (by simp)
    simp only [List.mem_cons, List.not_mem_nil, or_false] at hy
    rcases hy with rfl | rfl | rfl
    · exact El.str ka (by omega)
    · exact El.str kl (by omega)
    · exact El.str kc (by omega)
  · exact no (fun _ => rfl) (fun _ e => nomatch e)
  · exact ye (one ⟨fun x hx => (nomatch hx), rfl⟩) (by simp)
  · refine ye (one ⟨fun x hx => ?_, ?_⟩) (by simp)
    · simp only [List.mem_cons, List.not_mem_nil, or_false] at hx
      rcases hx with rfl | rfl
      · exact .str (by omega)
      · exact .str (by omega)
    · show (PyData.strOk a && (PyData.strOk l && true)) = true
      rw [ka, kl]; rfl
  · refine ye (fun y hy => ?_) (by simp)
    simp only [List.mem_cons, List.not_mem_nil, or_false] at hy
    rcases hy with rfl | rfl <;> exact ⟨.int, rfl⟩
  · refine ye (one ⟨.lst, ?_⟩) (by simp)
    show (PyData.strOk a && (PyData.strOk l && (PyData.strOk c && true))) = true
    rw [ka, kl, kc]; rfl
theorem b7_spec (HB : HasBag M i n) (hn : n ≤ 900000) (ge : ∀ e ∈ es, goodE e) (h0 : 0 < es.length) : Wp (b_7 (bS i way es k z M b)) fun fl s => (k ≠ 5 ∧ fl = .nx ∧ s = bS i way es k z M b) ∨ (k = 5 ∧ ∃ x, fl = .ret (.d x) ∧ Th x ∧ HasBag s.M i (n + 1) ∧ s.M.length = M.length) := by
  have big := big
  unfold b_7 bS
  by_cases hk : k = 5
  · subst hk
    obtain ⟨e0, er, rfl⟩ : ∃ e0 er, es = e0 :: er := by
      cases es with
      | nil => simp at h0
      | cons a r => exact ⟨a, r, rfl⟩
    have g0 := ge e0 List.mem_cons_self
    obtain ⟨a, l, c, rfl, ga, gl, gc⟩ := g0
    have th := th_odd (ge _ List.mem_cons_self)
    have at0 : atI (D.tup [.str a, .str l, .str c] :: er) 0 = some (.tup [.str a, .str l, .str c]) := by
      unfold atI ixN
      simp
    have sl2 : slD (.tup [.str a, .str l, .str c]) none (some 2) = some (.d (.tup [.str a, .str l])) := rfl
    have bl : ∀ M, bList M [.d (.tup [.str a, .str l, .str c])] = some (.new (.lst ([D.str a, .str l, .str c].map .d))) := fun M => rfl
    have dt : dTup (.lst [.lst [.str a, .str l, .str c]]) = some (.d (.tup [.lst [.str a, .str l, .str c]])) := rfl
    generalize hf : f__law_of = ft
    simp [-Prod.exists, at0, sl2, bl, b1, dt, Cell.frz, dats_all, dats]
    refine ⟨by omega, by omega, by omega, by omega, ?_⟩
    subst hf
    refine (of_b HB hn (xs := [D.non, .int 0, .str "", .tup [.str a, .str l, .str c], .lst [], .tup [.tup []], .tup [.tup [.str a, .str l]], .tup [.int 1, .int 2], .tup [.lst [.str a, .str l, .str c]]]) (by simp) (by simp)).mono fun r M' ⟨x, e1, hx, B', lM⟩ => ?_
    exact ⟨x, e1, th x hx, B', lM⟩
  · simp [-Prod.exists, hk]
theorem th_lst {ws : List D} : Th (.lst ws) := .inl ⟨fun _ => rfl, fun _ e => nomatch e⟩
theorem bent_spec (HB : HasBag M i n) (hn : n ≤ 800000) (ge : ∀ e ∈ es, goodE e) (h0 : 0 < es.length) (h1 : es.length < 1000) (Wy : WayOk 6 way) : Fw (f__law_bent [.loc i, .d (.lst way), .d (.lst es)] M) fun r M' => ∃ x, Rv r x ∧ Th x ∧ HasBag M' i (n + 8) := by
  have big := big
  unfold f__law_bent
  rw [fw_fn, b__eq]
  rw [wp_seq]
  refine Wp.mono (Q := fun fl s => fl = .nx ∧ ∃ k M1, s = bS i way es k .no M1 M.length ∧ HasBag M1 i (n + 1) ∧ M1.length = M.length ∧ 0 ≤ k) ?_ ?_
  · unfold b_1 bS
    generalize hf : f__law_take = ft
    simp [-Prod.exists]
    subst hf
    refine (take_b (w := 9) HB (by omega) (by decide) (by decide)).mono fun r M' ⟨k, e1, k0, k1, B', lM⟩ => ?_
    subst e1
    simp [-Prod.exists]
    exact ⟨k, M', ⟨rfl, rfl⟩, B', lM, k0⟩
  rintro fl s ⟨rfl, k, M1, rfl, B1, L1, k0⟩
  dsimp only
  have W0 : WI 0 k way := ⟨Wy.le (by omega), fun _ => Wy⟩
  rw [wp_seq]
  refine (b2_spec W0).mono ?_
  rintro fl s ⟨rfl, w2, rfl, W1⟩
  dsimp only
  rw [wp_seq]
  refine (b3_spec B1 (by omega) W1).mono ?_
  rintro fl s ⟨rfl, w3, z3, M3, rfl, W3, B3, L3⟩
  dsimp only
  rw [wp_seq]
  refine (b4_spec B3 (by omega) W3).mono ?_
  rintro fl s ⟨rfl, w4, z4, M4, rfl, W4, B4, L4⟩
  dsimp only
  have take : ∀ {m : Nat} {M' : List (Option Cell)}, HasBag M' i m → M'.length = M.length → m ≤ n + 8 → HasBag (M'.take M.length) i (n + 8) := fun h e q => by
    rw [List.take_of_length_le (by omega)]; exact h.up q
  rw [wp_seq]
  refine b5_spec.mono ?_
  rintro fl s (⟨hk3, rfl, rfl⟩ | ⟨_, rfl, e5⟩)
  · dsimp only
    rw [wp_seq]
    refine (b6_spec (W4.skip hk3)).mono ?_
    rintro fl s ⟨rfl, w6, rfl, W6⟩
    dsimp only
    rw [wp_seq]
    refine (b7_spec B4 (by omega) ge h0).mono ?_
    rintro fl s (⟨hk5, rfl, rfl⟩ | ⟨_, x, rfl, tx, B7, L7⟩)
    · dsimp only
      rw [wp_seq]
      refine (b8_spec B4 (by omega) ge h0 h1 (W6.skip hk5)).mono ?_
      rintro fl s ⟨rfl, w8, z8, M8, rfl, W8, B8, L8⟩
      dsimp only
      have dt : dTup (.lst w8) = some (.d (.tup w8)) := rfl
      unfold b_9 bS
      simp [-Prod.exists, b1, dt, retR]
      exact ⟨.tup w8, .inl rfl, th_way W8, take B8 (by omega) (by omega)⟩
    · simp [-Prod.exists, retR]
      exact ⟨x, .inl rfl, tx, take B7 (by omega) (by omega)⟩
  · have bl : (Cell.lst (w4.map W.d)).belowB M.length = true := by simp [Cell.belowB, W.belowB]
    have L5 : s.M = M4 := e5
    refine ⟨.new (.lst (w4.map W.d)), ?_, .lst w4, .inr ⟨w4, rfl, rfl⟩, th_lst, by rw [L5]; exact take B4 (by omega) (by omega)⟩
    unfold retR
    dsimp only
    rw [if_pos bl]
/-! ### the word of a way -/
def lblE : D → D
  | .tup [_, l, _] => l
  | _ => .non
theorem word_spec (h : ∀ e ∈ way, goodE e) (hl : way.length ≤ 100) : Fw (f_word_of [.d (.tup way)] M) fun r M' => r = .d (.tup (way.map lblE)) ∧ M' = M := by
  have big := big
  unfold f_word_of
  rw [fw_fn]
  unfold c_word_of
  have key : Wp (eComp (iSrc (eVar 0)) (kTup (kCons (kName 1) (kCons (kName 2) (kCons (kName 1) (kNil))))) [1, 2] (fYes) (evW (eVar 2)) ⟨[.w (.d (.tup way)), .no, .no], M, M.length⟩) fun r s => r = .new (.lst ((way.map lblE).map .d)) ∧ s.M = M := by
    refine wp_compP (fun s => ∃ t u, s = ⟨[.w (.d (.tup way)), t, u], M, M.length⟩) (fun _ => true) lblE ?_
    simp [-Prod.exists]
    refine ⟨by omega, ?_, ?_⟩
    · rintro d hd s t u rfl
      obtain ⟨a, l, b, rfl, _⟩ := h d hd
      refine ⟨_, rfl, ?_⟩
      simp [lblE]
    · rintro s t u rfl
      rw [List.filter_eq_self.mpr (by simp)]
      exact ⟨rfl, rfl⟩
  simp [-Prod.exists]
  refine key.mono fun r s ⟨e1, e2⟩ => ?_
  subst e1
  simp [-Prod.exists, -List.map_map, e2, Cell.frz, dats_all, b1]
end
end L_k06

set_option maxHeartbeats 2000000
set_option exponentiation.threshold 3000
namespace L_k06
open PySem PyProof.Rows L2 He Pm
/-! ### what is drawn first -/
theorem goodN_of {x : D} (h : isW "abz019" x) : good x := by
  obtain ⟨w, rfl, W, l⟩ := h
  refine ⟨w, rfl, l, W.len, fun c hc => ?_⟩
  have : ∀ c ∈ ("abz019" : Str).cps.toList, c ∈ ("abcdefghijklmnopqrstuvwxyz0123456789" : Str).cps.toList := by decide +kernel
  exact this c (W.sub c hc)
theorem goodL_of {x : D} (h : isW "abyz" x) : ∃ w, x = .str w ∧ goodL w := by
  obtain ⟨w, rfl, W, l⟩ := h
  refine ⟨w, rfl, l, W.len, fun c hc => ?_⟩
  have : ∀ c ∈ ("abyz" : Str).cps.toList, c ∈ ("abcdefghijklmnopqrstuvwxyz" : Str).cps.toList := by decide +kernel
  exact this c (W.sub c hc)
structure Nl (ns lb : List D) : Prop where
  wn : ∀ x ∈ ns, isW "abz019" x
  wl : ∀ x ∈ lb, isW "abyz" x
  n0 : 0 < ns.length
  n1 : ns.length ≤ 5
  l0 : 0 < lb.length
  l1 : lb.length ≤ 3
  on : Ord ns
theorem Nl.gn {ns lb : List D} (h : Nl ns lb) : ∀ x ∈ ns, good x := fun x hx => goodN_of (h.wn x hx)
theorem Nl.gl {ns lb : List D} (h : Nl ns lb) : ∀ x ∈ lb, ∃ w, x = .str w ∧ goodL w := fun x hx => goodL_of (h.wl x hx)
/-- what the turns rest on -/
structure Gr (ns es : List D) : Prop where
  g : GG ns es
  oe : Ord es
  on : Ord ns
  e0 : 0 < es.length
  n0 : 0 < ns.length
  e8 : es.length ≤ 8
def gW (es ns : List D) : W := .d (.obj 7 [("triples", .lst es), ("points", .lst ns)])
theorem gW_is {M : List (Option Cell)} {es ns : List D} : isG M es ns (gW es ns) := rfl
def stR (i : Nat) (ns lb es : List D) (x4 x5 x6 x7 x8 x9 x10 x11 x12 x13 x14 : Sl) (M : List (Option Cell)) (b : Nat) : S :=
  ⟨[.w (.loc i), .w (.d (.lst ns)), .w (.d (.lst lb)), .w (.d (.lst es)), x4, x5, x6, x7, x8, x9, x10, x11, x12, x13, x14, .no, .no, .no], M, b⟩
section
variable {M : List (Option Cell)} {ns lb es : List D} {i n b : Nat} {c : Cell} {x3 x4 x5 x6 x7 x8 x9 x10 x11 x12 x13 x14 : Sl}
theorem Nl.g0 (h : Nl ns lb) (he : ∀ e ∈ es, isE ns lb e) (l : es.length ≤ 60) : GG ns es := ⟨h.gn, by have := h.n1; omega, fun e h' => by
    obtain ⟨s, l, t, rfl, q1, q2, q3⟩ := he e h'
    obtain ⟨s', rfl, _⟩ := h.gn s q1
    obtain ⟨t', rfl, _⟩ := h.gn t q3
    obtain ⟨l', rfl, gl⟩ := h.gl l q2
    exact ⟨s', l', t', rfl, gl, q1, q3⟩, l⟩
theorem k1 (HB : HasBag M i n) (hn : n ≤ 1000) : Wp (r_1 ⟨[.w (.loc i), .no, .no, .no, .no, .no, .no, .no, .no, .no, .no, .no, .no, .no, .no, .no, .no, .no], M, b⟩) fun fl s => fl = .nx ∧ ∃ ns lb M', s = ⟨[.w (.loc i), .w (.d (.lst ns)), .w (.d (.lst lb)), .no, .no, .no, .no, .no, .no, .no, .no, .no, .no, .no, .no, .no, .no, .no], M', b⟩ ∧ HasBag M' i (n + 200) ∧ Nl ns lb := by
  obtain ⟨c, h, B⟩ := HB.ex
  have hi := bag_at h
  unfold r_1
  simp [-Prod.exists]
  refine (names_spec (sg := "abz019") (m := 5) h B (by omega) (by decide) (by decide) (by decide) (by decide) (by decide +kernel)).mono fun r M' ⟨xs, c1, e1, x1, x2, x3, x4, e2, B1⟩ => ?_
  subst e1 e2
  simp [-Prod.exists]
  refine (names_spec (sg := "abyz") (m := 3) (get_set hi) B1 (by omega) (by decide) (by decide) (by decide) (by decide) (by decide +kernel)).mono fun r M' ⟨ls, c2, e1, l1, l2, l3, l4, e2, B2⟩ => ?_
  subst e1 e2
  have lx : (srtD xs).length = xs.length := (srtD_perm xs).length_eq
  have ll : (srtD ls).length = ls.length := (srtD_perm ls).length_eq
  simp [-Prod.exists]
  exact ⟨srtD xs, srtD ls, _, ⟨⟨rfl, rfl⟩, rfl⟩, ⟨c2, get_set hi, B2.up (by omega)⟩, ⟨fun x hx => x4 x (mem_srt.mp hx), fun x hx => l4 x (mem_srt.mp hx), by rw [lx]; exact List.length_pos_iff.mpr x2, by omega, by rw [ll]; exact List.length_pos_iff.mpr l2, by omega, ⟨(srtD_perm xs).nodup_iff.mpr x1, srtD_srt xs⟩⟩⟩
theorem edges_n {m : Nat} (h : M[i]? = some (some c)) (B : BagOk n c) (hn : n ≤ 800000) (hm : m ≤ 100) (N : Nl ns lb) : Fw (f__law_edges [.loc i, .d (.lst ns), .d (.lst lb), .d (.int m)] M) fun r M' => ∃ (xs : List D) (c' : Cell), r = .new (.lst (xs.map .d)) ∧ xs.length = m ∧ (∀ x ∈ xs, isE ns lb x) ∧ M' = M.set i (some c') ∧ BagOk (n + 1000) c' := by
  have q1 : PyData.strOk "abz019" = true := by decide +kernel
  have q2 : PyData.strOk "abyz" = true := by decide +kernel
  have := N.n1
  have := N.l1
  exact edges_spec (sg := "abz019") (sl := "abyz") h B hn hm q1 q2 N.wn N.wl N.n0 (by omega) N.l0 (by omega)
theorem each_g (g : GG ns es) : Fw (f__law_each [.d (.lst es)] M) fun r M' => r = .new (.lst ((each es).map .d)) ∧ M' = M := each_spec g.ok g.cmp (by have := g.lt; omega)
theorem k2 (HB : HasBag M i n) (hn : n ≤ 1000) (N : Nl ns lb) :
    Wp (r_2 ⟨[.w (.loc i), .w (.d (.lst ns)), .w (.d (.lst lb)), x3, x4, x5, x6, x7, x8, x9, x10, x11, x12, x13, x14, .no, .no, .no], M, b⟩) fun fl s => fl = .nx ∧ ∃ es M', s = stR i ns lb es x4 x5 x6 x7 x8 x9 x10 x11 x12 x13 x14 M' b ∧ HasBag M' i (n + 1001) ∧ Gr ns es := by
  obtain ⟨c, h, B⟩ := HB.ex
  have hi := bag_at h
  unfold r_2 stR
  generalize hE : f__law_each = fe
  simp [-Prod.exists]
  refine (take_spec (m := 8) h B (by omega) (by decide) (by decide)).mono fun r M' ⟨k, c1, e1, k0, k1, e2, B1⟩ => ?_
  subst e1 e2
  obtain ⟨m, hm⟩ : ∃ m : Nat, 1 + k = (m : Int) := ⟨(1 + k).toNat, by omega⟩
  simp [-Prod.exists, hm]
  refine (edges_n (m := m) (get_set hi) B1 (by omega) (by omega) N).mono fun r M' ⟨es, c2, e1, h1, h2, e2, B2⟩ => ?_
  subst e1 e2
  have G := N.g0 h2 (by omega)
  simp [-Prod.exists]
  subst hE
  refine (each_g G).mono fun r M' ⟨e1, e2⟩ => ?_
  subst e1 e2
  simp [-Prod.exists]
  have ne0 : es ≠ [] := fun e => by rw [e] at h1; simp at h1; omega
  have e0 : 0 < (each es).length := by
    cases es with
    | nil => exact absurd rfl ne0
    | cons a r => exact List.length_pos_of_mem ((mem_each G.ok).mpr (List.mem_cons_self (a := a)))
  have e8 : (each es).length ≤ es.length := nodup_len (each_nd G.ok) fun x hx => (mem_each G.ok).mp hx
  exact ⟨each es, _, ⟨rfl, rfl⟩, ⟨c2, by simpa using get_set (by simpa using hi), B2.up (by omega)⟩, ⟨G.each, ord_each G.ok, N.on, e0, N.n0, by omega⟩⟩
theorem k3 (G : Gr ns es) : Wp (r_3 (stR i ns lb es x4 x5 x6 x7 x8 x9 x10 x11 x12 x13 x14 M b)) fun fl s => fl = .nx ∧ s = stR i ns lb es (.w (gW es ns)) x5 x6 x7 x8 x9 x10 x11 x12 x13 x14 M b := by
  unfold r_3 stR gW
  generalize hf : f_Graph_QinitQ = fs
  simp [-Prod.exists]
  subst hf
  refine (init_g G.g G.on).mono fun r M' ⟨e1, e2⟩ => ?_
  subst e1 e2
  rw [ord_id G.g.ok G.oe]
  simp [-Prod.exists, gC, Cell.frz]
  rfl
end
end L_k06

set_option maxHeartbeats 2000000
set_option exponentiation.threshold 3000
namespace L_k06
open PySem PyProof.Rows L2 He Pm
noncomputable def wB (es : List D) (s f : D) (rk : Int) (x : D) : Bool := @decide (IsT es s f rk x) (Classical.propDecidable _)
theorem wB_iff {es : List D} {s f x : D} {rk : Int} : wB es s f rk x = true ↔ IsT es s f rk x := by
  unfold wB
  exact @decide_eq_true_iff _ (Classical.propDecidable _)
section
variable {M : List (Option Cell)} {ns lb es way : List D} {i n b : Nat} {s f x : D} {x3 x4 x5 x6 x7 x8 x9 x10 x11 x12 x13 x14 : Sl}
theorem eq_of_iff {a b : Bool} {p : Prop} (h1 : a = true ↔ p) (h2 : b = true ↔ p) : a = b := by
  cases a <;> cases b <;> simp_all
theorem way_b {mn : Str} {j : Nat} (G : Gr ns es) (hs : s ∈ ns) (hf : f ∈ ns) (hm : mn ∈ [("walk" : Str), "trail", "path"]) (hj : [("walk" : Str), "trail", "path"].idxOf mn = j) (hx : Th x) :
    Fw (f_is_way [.d x, gW es ns, .d s, .d f, .d (.str mn)] M) fun r M' => r = .d (.bl (wB es s f j x)) ∧ M' = M :=
  (way_spec gW_is G.g.g G.g.hq hs hf hm hj (by
    have := List.idxOf_lt_length_of_mem hm
    rw [hj] at this
    exact this) hx fun _ => gW_is).mono fun r M' ⟨b, e1, h, e2⟩ => ⟨by rw [e1, eq_of_iff h wB_iff], e2⟩
theorem fits_b {rk : Int} (G : Gr ns es) (hs : s ∈ ns) (hf : f ∈ ns) (hx : Th x) :
    Fw (f__law_fits [.d x, .d (.lst es), .d s, .d f, .d (.int rk)] M) fun r M' => r = .d (.bl (wB es s f rk x)) ∧ M' = M :=
  (fits_spec G.g.g (G.g.hq s hs) (G.g.hq f hf) hx).mono fun r M' ⟨b, e1, h, e2⟩ => ⟨by rw [e1, eq_of_iff h wB_iff], e2⟩
theorem q1s (HB : HasBag M i n) (hn : n ≤ 100000) (G : Gr ns es) : Wp (q_1 (stR i ns lb es x4 x5 x6 x7 x8 x9 x10 x11 x12 x13 x14 M b)) fun fl st => fl = .nx ∧ ∃ s M', st = stR i ns lb es x4 x5 (.w (.d s)) x7 x8 x9 x10 x11 x12 x13 x14 M' b ∧ s ∈ ns ∧ HasBag M' i (n + 1) := by
  unfold q_1 stR
  generalize hf : f__law_of = fs
  simp [-Prod.exists]
  subst hf
  refine (of_b HB (by omega) G.n0 (by have := G.g.lq; omega)).mono fun r M' ⟨y, e1, hy, B', _⟩ => ?_
  subst e1
  simp [-Prod.exists]
  exact ⟨y, M', ⟨rfl, rfl⟩, hy, B'⟩
theorem q2s (HB : HasBag M i n) (hn : n ≤ 100000) (G : Gr ns es) (hs : s ∈ ns) : Wp (q_2 (stR i ns lb es x4 x5 (.w (.d s)) x7 x8 x9 x10 x11 x12 x13 x14 M b)) fun fl st => fl = .nx ∧ ∃ way f M', st = stR i ns lb es x4 x5 (.w (.d s)) (.w (.d (.lst way))) (.w (.d f)) x9 x10 x11 x12 x13 x14 M' b ∧ f ∈ ns ∧ WayOk 6 way ∧ HasBag M' i (n + 7) := by
  unfold q_2 stR
  generalize hf : f__law_drawn = fs
  simp [-Prod.exists]
  subst hf
  refine (drawn_spec HB (by omega) G.g hs).mono fun r M' ⟨way, nd, e1, ⟨h1, h2⟩, h3, B'⟩ => ?_
  subst e1
  simp [-Prod.exists]
  refine ⟨way, nd, M', ⟨⟨rfl, rfl⟩, rfl⟩, h1, ⟨fun e he => G.g.g e (h2 e he), h3⟩, B'⟩
theorem q3s (W : WayOk 6 way) : Wp (q_3 (stR i ns lb es x4 x5 x6 (.w (.d (.lst way))) x8 x9 x10 x11 x12 x13 x14 M b)) fun fl st => fl = .nx ∧ st = stR i ns lb es x4 x5 x6 (.w (.d (.lst way))) x8 x9 x10 x11 x12 x13 x14 M b := by
  have big := big
  have hl := W.2
  have dt : dTup (.lst way) = some (.d (.tup way)) := rfl
  have dt2 : dTup (.lst (way.map lblE)) = some (.d (.tup (way.map lblE))) := rfl
  have kl : okM 8 (way.map lblE) := fun y hy => by
    obtain ⟨e, he, rfl⟩ := List.mem_map.mp hy
    obtain ⟨a, l, c, rfl, h1, h2, h3⟩ := W.1 e he
    exact strOk_of h2.2.2 (by decide +kernel)
  have e := opEq_tup (neg := true) kl kl
  rw [dEqs_refl kl] at e
  unfold q_3 stR
  generalize hf : f_word_of = fs
  have key : Wp (eComp (iSrc (eVar 7)) (kName 17) [17] (fYes) (evW (eIx (eVar 17) (eC (.int 1)))) ⟨[.w (.loc i), .w (.d (.lst ns)), .w (.d (.lst lb)), .w (.d (.lst es)), x4, x5, x6, .w (.d (.lst way)), x8, x9, x10, x11, x12, x13, x14, .no, .no, .no], M, b⟩) fun r s => r = .new (.lst ((way.map lblE).map .d)) ∧ s = ⟨[.w (.loc i), .w (.d (.lst ns)), .w (.d (.lst lb)), .w (.d (.lst es)), x4, x5, x6, .w (.d (.lst way)), x8, x9, x10, x11, x12, x13, x14, .no, .no, .no], M, b⟩ := by
    refine wp_compP (fun s => ∃ z, s = ⟨[.w (.loc i), .w (.d (.lst ns)), .w (.d (.lst lb)), .w (.d (.lst es)), x4, x5, x6, .w (.d (.lst way)), x8, x9, x10, x11, x12, x13, x14, .no, .no, z], M, b⟩) (fun _ => true) lblE ?_
    simp [-Prod.exists]
    refine ⟨by omega, fun d hd => ?_, ?_⟩
    · obtain ⟨a, l, c, rfl, h1, h2, h3⟩ := W.1 d hd
      simp [ix1, lblE]
    · rw [List.filter_eq_self.mpr (by simp)]
  simp [-Prod.exists, b1, dt]
  subst hf
  refine (word_spec W.1 (by omega)).mono fun r M' ⟨e1, e2⟩ => ?_
  subst e1 e2
  simp [-Prod.exists]
  refine key.mono fun r s ⟨e1, e2⟩ => ?_
  subst e1 e2
  simp [-Prod.exists, -List.map_map, Cell.frz, dats_all, b1, dt2, e]
theorem q4s (HB : HasBag M i n) (hn : n ≤ 100000) (G : Gr ns es) (W : WayOk 6 way) : Wp (q_4 (stR i ns lb es x4 x5 x6 (.w (.d (.lst way))) x8 x9 x10 x11 x12 x13 x14 M b)) fun fl st => fl = .nx ∧ ∃ x M', st = stR i ns lb es x4 x5 x6 (.w (.d (.lst way))) x8 (.w (.d x)) x10 x11 x12 x13 x14 M' b ∧ Th x ∧ HasBag M' i (n + 9) := by
  have dt : dTup (.lst way) = some (.d (.tup way)) := rfl
  unfold q_4 stR
  generalize hf : f__law_bent = fs
  generalize ht : f__law_take = ft
  simp [-Prod.exists]
  subst ht
  refine (take_b (w := 3) HB (by omega) (by decide) (by decide)).mono fun r M1 ⟨k, e1, k0, k1, B1, L1⟩ => ?_
  subst e1
  by_cases hk : k = 0
  · simp [-Prod.exists, hk]
    subst hf
    refine (bent_spec B1 (by omega) G.g.g G.e0 (by have := G.e8; omega) W).mono fun r M' ⟨x, rv, tx, B'⟩ => ?_
    rcases rv with rfl | ⟨ws, rfl, rfl⟩
    · simp [-Prod.exists]
      exact ⟨x, M', ⟨rfl, rfl⟩, tx, B'.up (by omega)⟩
    · simp [-Prod.exists, Cell.frz, dats_all]
      exact ⟨.lst ws, M', ⟨rfl, rfl⟩, tx, B'.up (by omega)⟩
  · simp [-Prod.exists, hk, b1, dt]
    exact ⟨.tup way, M1, ⟨rfl, rfl⟩, th_way (W.le (by omega)), B1.up (by omega)⟩
theorem q5s (HB : HasBag M i n) (hn : n ≤ 100000) (G : Gr ns es) (hs : s ∈ ns) : Wp (q_5 (stR i ns lb es x4 x5 (.w (.d s)) x7 x8 x9 x10 x11 x12 x13 x14 M b)) fun fl st => fl = .nx ∧ ∃ s' M', st = stR i ns lb es x4 x5 (.w (.d s')) x7 x8 x9 x10 x11 x12 x13 x14 M' b ∧ s' ∈ ns ∧ HasBag M' i (n + 2) := by
  unfold q_5 stR
  generalize hf : f__law_of = fs
  generalize ht : f__law_take = ft
  simp [-Prod.exists]
  subst ht
  refine (take_b (w := 6) HB (by omega) (by decide) (by decide)).mono fun r M1 ⟨k, e1, k0, k1, B1, L1⟩ => ?_
  subst e1
  by_cases hk : k = 0
  · simp [-Prod.exists, hk]
    subst hf
    refine (of_b B1 (by omega) G.n0 (by have := G.g.lq; omega)).mono fun r M' ⟨y, e1, hy, B', _⟩ => ?_
    subst e1
    simp [-Prod.exists]
    exact ⟨y, M', ⟨rfl, rfl⟩, hy, B'⟩
  · simp [-Prod.exists, hk]
    exact ⟨s, M1, ⟨rfl, rfl⟩, hs, B1.up (by omega)⟩
theorem q6s (HB : HasBag M i n) (hn : n ≤ 100000) (G : Gr ns es) (hf' : f ∈ ns) : Wp (q_6 (stR i ns lb es x4 x5 x6 x7 (.w (.d f)) x9 x10 x11 x12 x13 x14 M b)) fun fl st => fl = .nx ∧ ∃ f' M', st = stR i ns lb es x4 x5 x6 x7 (.w (.d f')) x9 x10 x11 x12 x13 x14 M' b ∧ f' ∈ ns ∧ HasBag M' i (n + 2) := by
  unfold q_6 stR
  generalize hf : f__law_of = fs
  generalize ht : f__law_take = ft
  simp [-Prod.exists]
  subst ht
  refine (take_b (w := 6) HB (by omega) (by decide) (by decide)).mono fun r M1 ⟨k, e1, k0, k1, B1, L1⟩ => ?_
  subst e1
  by_cases hk : k = 0
  · simp [-Prod.exists, hk]
    subst hf
    refine (of_b B1 (by omega) G.n0 (by have := G.g.lq; omega)).mono fun r M' ⟨y, e1, hy, B', _⟩ => ?_
    subst e1
    simp [-Prod.exists]
    exact ⟨y, M', ⟨rfl, rfl⟩, hy, B'⟩
  · simp [-Prod.exists, hk]
    exact ⟨f, M1, ⟨rfl, rfl⟩, hf', B1.up (by omega)⟩
theorem q7s (G : Gr ns es) (hs : s ∈ ns) (hf : f ∈ ns) (tx : Th x) : Wp (q_7 (stR i ns lb es (.w (gW es ns)) x5 (.w (.d s)) x7 (.w (.d f)) (.w (.d x)) x10 x11 x12 x13 x14 M b)) fun fl st => fl = .nx ∧ st = stR i ns lb es (.w (gW es ns)) x5 (.w (.d s)) x7 (.w (.d f)) (.w (.d x)) (.w (.d (.lst [.bl (wB es s f 0 x)]))) x11 x12 x13 x14 M b := by
  have big := big
  unfold q_7 stR
  generalize hf : f_is_way = fs
  simp [-Prod.exists, wp_resW]
  subst hf
  refine (way_b (mn := "walk") (j := 0) G hs (by assumption) (by simp) (by decide +kernel) tx).mono fun r M' ⟨e1, e2⟩ => ?_
  subst e1 e2
  simp [-Prod.exists, Cell.frz, dats_all, dats]
  omega
noncomputable def gB (es : List D) (s f x : D) : D → D
  | .str w => .bl (wB es s f (([("walk" : Str), "trail", "path"].idxOf w : Nat) : Int) x)
  | .int k => .bl (wB es s f k x)
  | _ => .non
theorem q8s (G : Gr ns es) (hs : s ∈ ns) (hf : f ∈ ns) (tx : Th x) {b0 : D} : Wp (q_8 (stR i ns lb es (.w (gW es ns)) x5 (.w (.d s)) x7 (.w (.d f)) (.w (.d x)) (.w (.d (.lst [b0]))) x11 x12 x13 x14 M b)) fun fl st => fl = .nx ∧ st = stR i ns lb es (.w (gW es ns)) x5 (.w (.d s)) x7 (.w (.d f)) (.w (.d x)) (.w (.d (.lst [b0, .bl (wB es s f 0 x), .bl (wB es s f 1 x), .bl (wB es s f 2 x)]))) x11 x12 x13 x14 M b := by
  have big := big
  unfold q_8 stR
  generalize hf : f_is_way = fs
  simp [-Prod.exists]
  generalize hst : (⟨[.w (.loc i), .w (.d (.lst ns)), .w (.d (.lst lb)), .w (.d (.lst es)), .w (gW es ns), x5, .w (.d s), x7, .w (.d f), .w (.d x), .w (.d (.lst [b0])), x11, x12, x13, x14, .no, .no, .no], M, b⟩ : S) = st
  refine wp_compP (fun st => ∃ z, st = ⟨[.w (.loc i), .w (.d (.lst ns)), .w (.d (.lst lb)), .w (.d (.lst es)), .w (gW es ns), x5, .w (.d s), x7, .w (.d f), .w (.d x), .w (.d (.lst [b0])), x11, x12, x13, x14, z, .no, .no], M, b⟩) (fun _ => true) (gB es s f x) ?_
  subst hst
  simp [-Prod.exists, wp_resW]
  have one : ∀ (w : Str) (j : Nat), w ∈ [("walk" : Str), "trail", "path"] → [("walk" : Str), "trail", "path"].idxOf w = j → gB es s f x (.str w) = .bl (wB es s f j x) ∧ Fw (f_is_way (gApp [.d x, gW es ns, .d s, .d f] [.d (.str w)]) M) fun r M' => r = .d (.bl (wB es s f j x)) ∧ M' = M := fun w j hw hj => by
    refine ⟨?_, way_b G hs (by assumption) hw hj tx⟩
    unfold gB
    dsimp only
    rw [hj]
  obtain ⟨g1, w1⟩ := one "walk" 0 (by simp) (by decide +kernel)
  obtain ⟨g2, w2⟩ := one "trail" 1 (by simp) (by decide +kernel)
  obtain ⟨g3, w3⟩ := one "path" 2 (by simp) (by decide +kernel)
  subst hf
  rw [g1, g2, g3]
  refine ⟨by omega, ⟨w1.mono fun r M' ⟨e1, e2⟩ => ?_, w2.mono fun r M' ⟨e1, e2⟩ => ?_, w3.mono fun r M' ⟨e1, e2⟩ => ?_⟩, ?_⟩
  · subst e1 e2; simp
  · subst e1 e2; simp
  · subst e1 e2; simp
  · have e := opAdd_lst (a := [b0]) (b := [.bl (wB es s f (0 : Nat) x), .bl (wB es s f (1 : Nat) x), .bl (wB es s f (2 : Nat) x)]) (by simp; omega)
    refine ⟨_, e, ?_⟩
    simp [-Prod.exists, Cell.frz, dats_all, dats]
theorem bl4 {a b c d : Bool} {neg : Bool} : opEq neg (.lst [.bl a, .bl b, .bl c, .bl d]) (.lst [.bl a, .bl b, .bl c, .bl d]) = some (!neg) := by
  cases a <;> cases b <;> cases c <;> cases d <;> cases neg <;> rfl
theorem q9s (G : Gr ns es) (hs : s ∈ ns) (hf : f ∈ ns) (tx : Th x) : Wp (q_9 (stR i ns lb es x4 x5 (.w (.d s)) x7 (.w (.d f)) (.w (.d x)) (.w (.d (.lst [.bl (wB es s f 0 x), .bl (wB es s f 0 x), .bl (wB es s f 1 x), .bl (wB es s f 2 x)]))) x11 x12 x13 x14 M b)) fun fl st => fl = .nx ∧ st = stR i ns lb es x4 x5 (.w (.d s)) x7 (.w (.d f)) (.w (.d x)) (.w (.d (.lst [.bl (wB es s f 0 x), .bl (wB es s f 0 x), .bl (wB es s f 1 x), .bl (wB es s f 2 x)]))) x11 x12 x13 x14 M b := by
  have big := big
  have one : ∀ rk : Int, Fw (f__law_fits [.d x, .d (.lst es), .d s, .d f, .d (.int rk)] M) fun r M' => r = .d (.bl (wB es s f rk x)) ∧ M' = M := fun rk => fits_b G hs hf tx
  have e4 := bl4 (a := wB es s f 0 x) (b := wB es s f 0 x) (c := wB es s f 1 x) (d := wB es s f 2 x) (neg := true)
  unfold q_9 stR
  generalize hg : f__law_fits = fs
  simp [-Prod.exists]
  generalize hT : (D.lst [.bl (wB es s f 0 x), .bl (wB es s f 0 x), .bl (wB es s f 1 x), .bl (wB es s f 2 x)]) = T at *
  generalize hst : (⟨[.w (.loc i), .w (.d (.lst ns)), .w (.d (.lst lb)), .w (.d (.lst es)), x4, x5, .w (.d s), x7, .w (.d f), .w (.d x), .w (.d T), x11, x12, x13, x14, .no, .no, .no], M, b⟩ : S) = st
  refine wp_compP (fun st => ∃ z, st = ⟨[.w (.loc i), .w (.d (.lst ns)), .w (.d (.lst lb)), .w (.d (.lst es)), x4, x5, .w (.d s), x7, .w (.d f), .w (.d x), .w (.d T), x11, x12, x13, x14, .no, z, .no], M, b⟩) (fun _ => true) (gB es s f x) ?_
  subst hst
  subst hg
  simp [-Prod.exists]
  have fin : ∀ rk : Int, Fw (f__law_fits [.d x, .d (.lst es), .d s, .d f, .d (.int rk)] M) fun r M' => Wp (toW r ⟨[.w (.loc i), .w (.d (.lst ns)), .w (.d (.lst lb)), .w (.d (.lst es)), x4, x5, .w (.d s), x7, .w (.d f), .w (.d x), .w (.d T), x11, x12, x13, x14, .no, .w (.d (.int rk)), .no], M', b⟩) fun w s3 => w = .d (gB es s f x (.int rk)) ∧ ∃ z, s3 = ⟨[.w (.loc i), .w (.d (.lst ns)), .w (.d (.lst lb)), .w (.d (.lst es)), x4, x5, .w (.d s), x7, .w (.d f), .w (.d x), .w (.d T), x11, x12, x13, x14, .no, z, .no], M, b⟩ := fun rk => (one rk).mono fun r M' ⟨e1, e2⟩ => by
    subst e1 e2
    simp [gB]
  refine ⟨by omega, ⟨fin 0, fin 1, fin 2⟩, ?_⟩
  show opEq true T (D.lst [.bl (wB es s f 0 x), .bl (wB es s f 0 x), .bl (wB es s f 1 x), .bl (wB es s f 2 x)]) = some false
  rw [hT]
  exact e4
theorem q10s {b0 b1 b2 b3 : Bool} : Wp (q_10 (stR i ns lb es x4 x5 x6 x7 x8 x9 (.w (.d (.lst [.bl b0, .bl b1, .bl b2, .bl b3]))) x11 x12 x13 x14 M b)) fun fl st => fl = .nx ∧ st = stR i ns lb es x4 x5 x6 x7 x8 x9 (.w (.d (.lst [.bl b0, .bl b1, .bl b2, .bl b3]))) x11 x12 x13 x14 M b := by
  have big := big
  unfold q_10 stR
  simp [-Prod.exists]
  generalize hT : (D.lst [.bl b0, .bl b1, .bl b2, .bl b3]) = T
  generalize hst : (⟨[.w (.loc i), .w (.d (.lst ns)), .w (.d (.lst lb)), .w (.d (.lst es)), x4, x5, x6, x7, x8, x9, .w (.d T), x11, x12, x13, x14, .no, .no, .no], M, b⟩ : S) = st
  refine wp_compP (fun st => ∃ z, st = ⟨[.w (.loc i), .w (.d (.lst ns)), .w (.d (.lst lb)), .w (.d (.lst es)), x4, x5, x6, x7, x8, x9, .w (.d T), x11, x12, x13, x14, z, .no, .no], M, b⟩) (fun _ => false) id ?_
  subst hst hT
  simp [-Prod.exists]
  exact ⟨by omega, rfl⟩
end
end L_k06

set_option maxHeartbeats 2000000
set_option exponentiation.threshold 3000
namespace L_k06
open PySem PyProof.Rows L2 He Pm
section
variable {M : List (Option Cell)} {ns lb es way : List D} {i n b : Nat} {s f x t : D} {x3 x4 x5 x6 x7 x8 x9 x10 x11 x12 x13 x14 : Sl}
/-! ### refused -/
theorem way_man (h : NM x) : Fxc (f_is_way [.d t, gW es ns, .d s, .d f, .d x] M) fun e M' => e = ⟨4, [("manner", x)]⟩ ∧ M' = M := by
  unfold f_is_way
  rw [fxc_fn]
  unfold c_is_way
  refine wxc_seq.mpr (.inl (wxc_set (wxc_evW (wxc_callK ?_))))
  generalize hf : f_Manner_rank = fs
  simp [-Prod.exists]
  subst hf
  refine (rank_bad h).mono fun e M' ⟨e1, e2⟩ => ?_
  subst e1 e2
  exact ⟨rfl, List.take_of_length_le (Nat.le_refl _)⟩
theorem way_chk {mn : Str} {j : Nat} (hm : mn ∈ [("walk" : Str), "trail", "path"]) (hj : [("walk" : Str), "trail", "path"].idxOf mn = j) (h : Fxc (f_check_nodes [gW es ns, .d (.tup [s, f])] M) fun e M' => e = ⟨5, [("node", x)]⟩ ∧ M' = M) :
    Fxc (f_is_way [.d t, gW es ns, .d s, .d f, .d (.str mn)] M) fun e M' => e = ⟨5, [("node", x)]⟩ ∧ M' = M := by
  have big := big
  unfold f_is_way
  rw [fxc_fn]
  unfold c_is_way
  refine wxc_seq.mpr (.inr ?_)
  generalize hf : f_Manner_rank = fs
  simp [-Prod.exists]
  subst hf
  refine (rank_good hm hj).mono fun r M' ⟨e1, e2⟩ => ?_
  subst e1 e2
  simp [-Prod.exists]
  refine wxc_seq.mpr (.inl (wxc_expr (wxc_callS ?_)))
  generalize hc : f_check_nodes = fc at *
  simp [-Prod.exists, wp_resW]
  refine ⟨by omega, ?_⟩
  refine h.mono fun e M2 ⟨e1, e2⟩ => ?_
  subst e1 e2
  exact ⟨rfl, by simp⟩
theorem ref_man (h : NM x) : Fw (f__law_refused [.d t, gW es ns, .d s, .d f, .d x] M) fun r M' => r = .d (.tup [.str "manner", x]) ∧ M' = M := by
  have big := big
  unfold f__law_refused
  rw [fw_fn]
  unfold c__law_refused
  rw [wp_seq]
  refine wp_tryN1 (wxc_expr (wxc_callK ?_))
  generalize hf : f_is_way = fs
  simp [-Prod.exists, wp_resW]
  subst hf
  refine (way_man (t := t) (s := s) (f := f) (es := es) (ns := ns) h).mono fun e M' ⟨e1, e2⟩ => ?_
  subst e1 e2
  refine wp_hand_t rfl rfl (by simp) ?_
  simp [-Prod.exists, selF, List.lookup, dats, flOk, noEx, noExS, retR]
  omega
theorem ref_node {mn : Str} {j : Nat} (hm : mn ∈ [("walk" : Str), "trail", "path"]) (hj : [("walk" : Str), "trail", "path"].idxOf mn = j) (h : Fxc (f_check_nodes [gW es ns, .d (.tup [s, f])] M) fun e M' => e = ⟨5, [("node", x)]⟩ ∧ M' = M) :
    Fw (f__law_refused [.d t, gW es ns, .d s, .d f, .d (.str mn)] M) fun r M' => r = .d (.tup [.str "node", x]) ∧ M' = M := by
  have big := big
  unfold f__law_refused
  rw [fw_fn]
  unfold c__law_refused
  rw [wp_seq]
  refine wp_tryN1 (wxc_expr (wxc_callK ?_))
  generalize hf : f_is_way = fs
  simp [-Prod.exists, wp_resW]
  subst hf
  refine (way_chk (t := t) hm hj h).mono fun e M' ⟨e1, e2⟩ => ?_
  subst e1 e2
  refine wp_hand_f rfl (wp_hand_t rfl rfl (by simp) ?_)
  simp [-Prod.exists, selF, List.lookup, dats, flOk, noEx, noExS, retR]
  omega
theorem ref_ok {mn : Str} {j : Nat} (G : Gr ns es) (hs : s ∈ ns) (hf : f ∈ ns) (hm : mn ∈ [("walk" : Str), "trail", "path"]) (hj : [("walk" : Str), "trail", "path"].idxOf mn = j) (tx : Th t) :
    Fw (f__law_refused [.d t, gW es ns, .d s, .d f, .d (.str mn)] M) fun r M' => r = .d (.tup []) ∧ M' = M := by
  have big := big
  unfold f__law_refused
  rw [fw_fn]
  unfold c__law_refused
  rw [wp_seq]
  refine wp_tryN0 ?_
  generalize hg : f_is_way = fs
  simp [-Prod.exists, wp_resW]
  subst hg
  refine (way_b (x := t) G hs hf hm hj tx).mono fun r M' ⟨e1, e2⟩ => ?_
  subst e1 e2
  simp [-Prod.exists, retR]
end
end L_k06

set_option maxHeartbeats 2000000
set_option exponentiation.threshold 3000
namespace L_k06
open PySem PyProof.Rows L2 He Pm
/-- a wrong manner, a far node -/
structure Wm (x : D) : Prop where
  nm : NM x
  sh : shOk 120 58 x
structure Fn' (x : D) : Prop where
  no : nodB x = false
  ok : okD 60 x = true
  sh : shOk 120 58 x
theorem sh_s {k : Nat} (w : String) (h : (w : Str).length ≤ 10) : shOk 110 k (.str w) := shOk_str (strOk_lit w) (by omega)
theorem wm_all : ∀ x ∈ [D.str "walks", .str "", .non, .int 0, .lst [.str "walk"], .str "WALK", .bl true], Wm x := by
  intro x hx
  simp only [List.mem_cons, List.not_mem_nil, or_false] at hx
  rcases hx with rfl | rfl | rfl | rfl | rfl | rfl | rfl
  · exact ⟨.inr ⟨_, rfl, strOk_lit _, by decide +kernel⟩, (sh_s _ (by decide)).le (by decide)⟩
  · exact ⟨.inr ⟨_, rfl, strOk_lit _, by decide +kernel⟩, (sh_s _ (by decide)).le (by decide)⟩
  · exact ⟨.inl fun _ => rfl, shOk_non (by decide)⟩
  · exact ⟨.inl fun _ => rfl, shOk_int (by decide) (by decide) (by decide)⟩
  · exact ⟨.inl fun _ => rfl, shOk_lst (n := 110) (fun y hy => by rw [List.mem_singleton.mp hy]; exact sh_s _ (by decide)) (by decide)⟩
  · exact ⟨.inr ⟨_, rfl, strOk_lit _, by decide +kernel⟩, (sh_s _ (by decide)).le (by decide)⟩
  · exact ⟨.inl fun _ => rfl, shOk_bl (by decide)⟩
theorem far_all : ∀ x ∈ [D.str "A", .non, .int 7, .str "zzzzzzzzz", .lst [.str "a"], .str ""], Fn' x := by
  intro x hx
  simp only [List.mem_cons, List.not_mem_nil, or_false] at hx
  rcases hx with rfl | rfl | rfl | rfl | rfl | rfl
  · exact ⟨by decide +kernel, strOk_lit _, (sh_s _ (by decide)).le (by decide)⟩
  · exact ⟨rfl, rfl, shOk_non (by decide)⟩
  · exact ⟨rfl, rfl, shOk_int (by decide) (by decide) (by decide)⟩
  · exact ⟨by decide +kernel, strOk_lit _, (sh_s _ (by decide)).le (by decide)⟩
  · exact ⟨rfl, by show (PyData.strOk "a" && true) = true; rw [strOk_lit]; rfl, shOk_lst (n := 110) (fun y hy => by rw [List.mem_singleton.mp hy]; exact sh_s _ (by decide)) (by decide)⟩
  · exact ⟨by decide +kernel, strOk_lit _, (sh_s _ (by decide)).le (by decide)⟩
theorem far_no {x : D} {ns : List D} (h : Fn' x) (g : ∀ e ∈ ns, good e) : x ∉ ns := fun hx => by
  obtain ⟨w, rfl, hw⟩ := g x hx
  have q := h.no
  rw [nodB_iff.mpr hw] at q
  cases q
def due5 (wr fa : D) : List D := [.tup [.str "manner", wr], .tup [.str "manner", wr], .tup [.str "node", fa], .tup [.str "node", fa], .tup []]
theorem due_sh {wr fa : D} (hw : Wm wr) (hf : Fn' fa) : shOk 5000 60 (.lst (due5 wr fa)) := by
  refine shOk_lst (n := 300) (k := 59) (fun y hy => ?_) (by simp [due5])
  have two : ∀ {a b : D}, shOk 120 58 a → shOk 120 58 b → shOk 300 59 (.tup [a, b]) := fun ha hb => shOk_tup (n := 120) (fun z hz => by
    simp only [List.mem_cons, List.not_mem_nil, or_false] at hz
    rcases hz with rfl | rfl <;> assumption) (by simp only [List.length_cons, List.length_nil]; omega)
  simp only [due5, List.mem_cons, List.not_mem_nil, or_false] at hy
  rcases hy with rfl | rfl | rfl | rfl | rfl
  · exact two ((sh_s _ (by decide)).le (by decide)) hw.sh
  · exact two ((sh_s _ (by decide)).le (by decide)) hw.sh
  · exact two ((sh_s _ (by decide)).le (by decide)) hf.sh
  · exact two ((sh_s _ (by decide)).le (by decide)) hf.sh
  · exact shOk_tup (n := 1) (fun z hz => by cases hz) (by simp)
section
variable {M : List (Option Cell)} {ns lb es way : List D} {i n b : Nat} {s f x t wr fa nd : D} {x3 x4 x5 x6 x7 x8 x9 x10 x11 x12 x13 x14 : Sl}
theorem r4s (HB : HasBag M i n) (hn : n ≤ 10000) (G : Gr ns es) : Wp (r_4 (stR i ns lb es (.w (gW es ns)) x5 x6 x7 x8 x9 x10 x11 x12 x13 x14 M b)) fun fl st => fl = .nx ∧ ∃ x5 x6 x7 x8 x9 x10 M', st = stR i ns lb es (.w (gW es ns)) x5 x6 x7 x8 x9 x10 x11 x12 x13 x14 M' b ∧ HasBag M' i (n + 300) := by
  rw [q__eq]
  have e12 : Wp (iRange1 (eaCons (evW (eC (.int 12))) (eaNil)) (stR i ns lb es (.w (gW es ns)) x5 x6 x7 x8 x9 x10 x11 x12 x13 x14 M b)) fun ds st => ds = rngD 0 12 ∧ st = stR i ns lb es (.w (gW es ns)) x5 x6 x7 x8 x9 x10 x11 x12 x13 x14 M b := by
    simp [-Prod.exists, smallI]
  rw [wp_for]
  refine e12.mono fun ds st ⟨e1, e2⟩ => ?_
  subst e1 e2
  refine wp_loop (fun j st => ∃ x5 x6 x7 x8 x9 x10 M', st = stR i ns lb es (.w (gW es ns)) x5 x6 x7 x8 x9 x10 x11 x12 x13 x14 M' b ∧ HasBag M' i (n + 21 * j)) ⟨_, _, _, _, _, _, _, rfl, HB⟩ ?_ ?_
  · rintro j d st hd ⟨x5, x6, x7, x8, x9, x10, M', rfl, H⟩
    obtain ⟨rfl, hj⟩ := rngD_get hd
    refine ⟨_, rfl, ?_⟩
    show Wp (fSeq q_1 _ (stR i ns lb es (.w (gW es ns)) (.w (.d (.int (0 + j)))) x6 x7 x8 x9 x10 x11 x12 x13 x14 M' b)) _
    rw [wp_seq]
    refine (q1s H (by omega) G).mono ?_
    rintro fl st ⟨rfl, s, M1, rfl, hs, H1⟩
    dsimp only
    rw [wp_seq]
    refine (q2s H1 (by omega) G hs).mono ?_
    rintro fl st ⟨rfl, way, f, M2, rfl, hf, W, H2⟩
    dsimp only
    rw [wp_seq]
    refine (q3s W).mono ?_
    rintro fl st ⟨rfl, rfl⟩
    dsimp only
    rw [wp_seq]
    refine (q4s H2 (by omega) G W).mono ?_
    rintro fl st ⟨rfl, x, M3, rfl, tx, H3⟩
    dsimp only
    rw [wp_seq]
    refine (q5s H3 (by omega) G hs).mono ?_
    rintro fl st ⟨rfl, s2, M4, rfl, hs2, H4⟩
    dsimp only
    rw [wp_seq]
    refine (q6s H4 (by omega) G hf).mono ?_
    rintro fl st ⟨rfl, f2, M5, rfl, hf2, H5⟩
    dsimp only
    rw [wp_seq]
    refine (q7s G hs2 hf2 tx).mono ?_
    rintro fl st ⟨rfl, rfl⟩
    dsimp only
    rw [wp_seq]
    refine (q8s G hs2 hf2 tx).mono ?_
    rintro fl st ⟨rfl, rfl⟩
    dsimp only
    rw [wp_seq]
    refine (q9s G hs2 hf2 tx).mono ?_
    rintro fl st ⟨rfl, rfl⟩
    dsimp only
    refine q10s.mono ?_
    rintro fl st ⟨rfl, rfl⟩
    exact ⟨_, _, _, _, _, _, _, rfl, H5.up (by omega)⟩
  · rintro st ⟨x5, x6, x7, x8, x9, x10, M', rfl, H⟩
    exact ⟨rfl, _, _, _, _, _, _, _, rfl, H.up (by show n + 21 * 12 ≤ _; omega)⟩
theorem r5s (HB : HasBag M i n) (hn : n ≤ 100000) : Wp (r_5 (stR i ns lb es x4 x5 x6 x7 x8 x9 x10 x11 x12 x13 x14 M b)) fun fl st => fl = .nx ∧ ∃ wr M', st = stR i ns lb es x4 x5 x6 x7 x8 x9 x10 (.w (.d wr)) x12 x13 x14 M' b ∧ Wm wr ∧ HasBag M' i (n + 1) := by
  have big := big
  unfold r_5 stR
  generalize hf : f__law_of = fs
  simp [-Prod.exists, Cell.frz, dats_all, dats]
  refine ⟨by omega, by omega, ?_⟩
  subst hf
  refine (of_b HB (by omega) (xs := [D.str "walks", .str "", .non, .int 0, .lst [.str "walk"], .str "WALK", .bl true]) (by simp) (by simp)).mono fun r M' ⟨y, e1, hy, B', _⟩ => ?_
  subst e1
  simp [-Prod.exists]
  exact ⟨y, M', ⟨rfl, rfl⟩, wm_all y hy, B'⟩
theorem r6s (HB : HasBag M i n) (hn : n ≤ 100000) : Wp (r_6 (stR i ns lb es x4 x5 x6 x7 x8 x9 x10 x11 x12 x13 x14 M b)) fun fl st => fl = .nx ∧ ∃ fa M', st = stR i ns lb es x4 x5 x6 x7 x8 x9 x10 x11 (.w (.d fa)) x13 x14 M' b ∧ Fn' fa ∧ HasBag M' i (n + 1) := by
  have big := big
  unfold r_6 stR
  generalize hf : f__law_of = fs
  simp [-Prod.exists, Cell.frz, dats_all, dats]
  refine ⟨by omega, by omega, ?_⟩
  subst hf
  refine (of_b HB (by omega) (xs := [D.str "A", .non, .int 7, .str "zzzzzzzzz", .lst [.str "a"], .str ""]) (by simp) (by simp)).mono fun r M' ⟨y, e1, hy, B', _⟩ => ?_
  subst e1
  simp [-Prod.exists]
  exact ⟨y, M', ⟨rfl, rfl⟩, far_all y hy, B'⟩
theorem r7s (HB : HasBag M i n) (hn : n ≤ 100000) (G : Gr ns es) : Wp (r_7 (stR i ns lb es x4 x5 x6 x7 x8 x9 x10 x11 x12 x13 x14 M b)) fun fl st => fl = .nx ∧ ∃ nd M', st = stR i ns lb es x4 x5 x6 x7 x8 x9 x10 x11 x12 (.w (.d nd)) x14 M' b ∧ nd ∈ ns ∧ HasBag M' i (n + 1) := by
  unfold r_7 stR
  generalize hf : f__law_of = fs
  simp [-Prod.exists]
  subst hf
  refine (of_b HB (by omega) G.n0 (by have := G.g.lq; omega)).mono fun r M' ⟨y, e1, hy, B', _⟩ => ?_
  subst e1
  simp [-Prod.exists]
  exact ⟨y, M', ⟨rfl, rfl⟩, hy, B'⟩
theorem r8s : Wp (r_8 (stR i ns lb es x4 x5 x6 x7 x8 x9 x10 (.w (.d wr)) (.w (.d fa)) x13 x14 M b)) fun fl st => fl = .nx ∧ st = stR i ns lb es x4 x5 x6 x7 x8 x9 x10 (.w (.d wr)) (.w (.d fa)) x13 (.w (.d (.lst (due5 wr fa)))) M b := by
  have big := big
  unfold r_8 stR due5
  simp [-Prod.exists, Cell.frz, dats_all, dats]
  omega
theorem r9s (hw : Wm wr) : Wp (r_9 (stR i ns lb es (.w (gW es ns)) x5 x6 x7 x8 x9 x10 (.w (.d wr)) (.w (.d fa)) (.w (.d nd)) x14 M b)) fun fl st => fl = .nx ∧ st = stR i ns lb es (.w (gW es ns)) x5 x6 x7 x8 x9 (.w (.d (.lst [.tup [.str "manner", wr], .tup [.str "manner", wr]]))) (.w (.d wr)) (.w (.d fa)) (.w (.d nd)) x14 M b := by
  have big := big
  unfold r_9 stR
  generalize hf : f__law_refused = fs
  simp [-Prod.exists, wp_resW]
  subst hf
  refine (ref_man (t := .tup []) (s := nd) (f := nd) (es := es) (ns := ns) hw.nm).mono fun r M' ⟨e1, e2⟩ => ?_
  subst e1 e2
  generalize hf : f__law_refused = fs
  simp [-Prod.exists, wp_resW]
  subst hf
  refine (ref_man (t := .int 5) (s := fa) (f := fa) (es := es) (ns := ns) hw.nm).mono fun r M' ⟨e1, e2⟩ => ?_
  subst e1 e2
  simp [-Prod.exists, Cell.frz, dats_all, dats]
  omega
theorem th0 : Th (.tup []) := .inr ⟨[], rfl, fun y hy => (nomatch hy), by decide⟩
theorem r10s (hf : Fn' fa) (G : Gr ns es) (hnd : nd ∈ ns) : Wp (r_10 (stR i ns lb es (.w (gW es ns)) x5 x6 x7 x8 x9 (.w (.d (.lst [.tup [.str "manner", wr], .tup [.str "manner", wr]]))) (.w (.d wr)) (.w (.d fa)) (.w (.d nd)) x14 M b)) fun fl st => fl = .nx ∧ st = stR i ns lb es (.w (gW es ns)) x5 x6 x7 x8 x9 (.w (.d (.lst [.tup [.str "manner", wr], .tup [.str "manner", wr], .tup [.str "node", fa], .tup [.str "node", fa]]))) (.w (.d wr)) (.w (.d fa)) (.w (.d nd)) x14 M b := by
  have big := big
  have n1 := fun M => chk_bad1 (M := M) (b := D.int (-1)) (gW_is (es := es) (ns := ns)) G.g.hq hf.ok (far_no hf G.g.hq)
  have n2 := fun M => chk_bad2 (M := M) (gW_is (es := es) (ns := ns)) G.g.hq hnd hf.ok (far_no hf G.g.hq)
  unfold r_10 stR
  generalize hg : f__law_refused = fs
  simp [-Prod.exists, wp_resW]
  subst hg
  refine (ref_node (t := .tup []) (mn := "path") (j := 2) (by simp) (by decide +kernel) (n1 _)).mono fun r M' ⟨e1, e2⟩ => ?_
  subst e1 e2
  generalize hg : f__law_refused = fs
  simp [-Prod.exists, wp_resW]
  subst hg
  refine (ref_node (t := .tup []) (mn := "trail") (j := 1) (by simp) (by decide +kernel) (n2 _)).mono fun r M' ⟨e1, e2⟩ => ?_
  subst e1 e2
  have e := opAdd_lst (a := [D.tup [.str "manner", wr], .tup [.str "manner", wr]]) (b := [.tup [.str "node", fa], .tup [.str "node", fa]]) (by simp; omega)
  simp [-Prod.exists, Cell.frz, dats_all, dats, e]
  omega
theorem r11s (hw : Wm wr) (hf : Fn' fa) (G : Gr ns es) (hnd : nd ∈ ns) : Wp (r_11 (stR i ns lb es (.w (gW es ns)) x5 x6 x7 x8 x9 (.w (.d (.lst [.tup [.str "manner", wr], .tup [.str "manner", wr], .tup [.str "node", fa], .tup [.str "node", fa]]))) (.w (.d wr)) (.w (.d fa)) (.w (.d nd)) (.w (.d (.lst (due5 wr fa)))) M b)) fun fl st => fl = .ret (.d (.bl true)) := by
  have big := big
  have sh := due_sh hw hf
  have rp := repr_of sh (by decide) rfl
  have rs := repr_same sh (by decide) (neg := false)
  unfold r_11 stR
  generalize hg : f__law_refused = fs
  simp [-Prod.exists, wp_resW]
  subst hg
  refine (ref_ok (mn := "path") (j := 2) G hnd hnd (by simp) (by decide +kernel) th0).mono fun r M' ⟨e1, e2⟩ => ?_
  subst e1 e2
  have e := opAdd_lst (a := [D.tup [.str "manner", wr], .tup [.str "manner", wr], .tup [.str "node", fa], .tup [.str "node", fa]]) (b := [.tup []]) (by simp; omega)
  have ed : ([D.tup [.str "manner", wr], .tup [.str "manner", wr], .tup [.str "node", fa], .tup [.str "node", fa]] ++ [.tup []]) = due5 wr fa := rfl
  rw [ed] at e
  generalize due5 wr fa = du at *
  simp [-Prod.exists, Cell.frz, dats_all, dats, e, b1, rp, rs]
  omega
end
end L_k06

set_option maxHeartbeats 2000000
set_option exponentiation.threshold 3000
namespace L_k06
open PySem PyProof.Rows L2 He Pm
@[simp] theorem b2I_int {M : List (Option Cell)} {f : Int → Int → Int} {i j : Int} : b2I f M [.d (.int i), .d (.int j)] = some (.d (.int (f i j))) := rfl
@[simp] theorem dAbs_int {i : Int} : dAbs (.int i) = some (.d (.int (if i < 0 then -i else i))) := rfl
@[simp] theorem ixD_scr {xs : List D} {k : Int} : ixD (.scr xs) (.int k) = (atI xs k).map .d := rfl
@[simp] theorem retR_new {b : Nat} {M : List (Option Cell)} {c : Cell} {r : Res} : retR b M (.new c) = some r ↔ c.belowB b = true ∧ r = .new c := by
  unfold retR
  split <;> simp_all
  exact fun _ => eq_comm
theorem bag_spec {M : List (Option Cell)} {ns : List Int} {p : Nat} (hp : p < 3) : Fw (f__law_bag [.d (.scr (ns.map D.int)), .d (.int p)] M) fun r M' => ∃ c, r = .new c ∧ BagOk 0 c ∧ M' = M := by
  have big := big
  unfold f__law_bag
  rw [fw_fn]
  unfold c__law_bag
  rw [wp_seq]
  refine Wp.mono (Q := fun fl s => fl = .nx ∧ ∃ x : Int, s = ⟨[.w (.d (.scr (ns.map D.int))), .w (.d (.int p)), .w (.d (.int x))], M, M.length⟩) ?_ ?_
  · simp [-Prod.exists]
    by_cases q : p < ns.length
    · obtain ⟨x, e, hx⟩ := atI_mem (xs := ns.map D.int) (k := (p : Int)) (by omega) (by simpa using q)
      obtain ⟨y, _, rfl⟩ := List.mem_map.mp hx
      simp [-Prod.exists, q, e]
    · simp [-Prod.exists, q]
      omega
  · rintro fl s ⟨rfl, x, rfl⟩
    dsimp only
    have p1 : fPow 10 18 = some (.int 1000000000000000000) := by rw [fPow_ok (by decide)]; rfl
    have a0 : 0 ≤ (if x < 0 then -x else x) := by split <;> omega
    have m1 : 0 ≤ x % 2305843009213693951 := Int.emod_nonneg _ (by decide)
    have m2 : x % 2305843009213693951 < 2305843009213693951 := Int.emod_lt_of_pos _ (by decide)
    have f1 : fMul (x % 2305843009213693951) 5 = some (.int (x % 2305843009213693951 * 5)) := fMul_ok (by
      have h1 := log2_small (i := x % 2305843009213693951) (by omega)
      have h2 := log2_small (i := 5) (by decide)
      omega)
    have f2 : fMul 6007 (p : Int) = some (.int (6007 * (p : Int))) := fMul_ok (by
      have h1 := log2_small (i := 6007) (by decide)
      have h2 := log2_small (i := (p : Int)) (by omega)
      omega)
    have l3 : 3 ≤ sizeLine := by omega
    generalize hy : (if x < 0 then -x else x) = y at *
    have fin : ∀ a : Int, 0 ≤ a → BagOk 0 (.lst [.d (.int a), .d (.int (x % 2305843009213693951 * 5 + 6007 * (p : Int) + 811)), .d (.int 0)]) := fun a ha => ⟨a, _, 0, rfl, ha, by omega, by omega, by omega, by omega⟩
    by_cases q : (1000000000000000000 : Int) ≤ y
    · simp [-Prod.exists, hy, p1, q, fMod_ok (i := x) (j := 2305843009213693951) (by decide), f1, f2, l3, Cell.belowB, W.belowB]
      exact fin y a0
    · simp [-Prod.exists, hy, p1, q, fMod_ok (i := x) (j := 2305843009213693951) (by decide), f1, f2, l3, Cell.belowB, W.belowB]
      exact fin 0 (by omega)
theorem right_spec {M : List (Option Cell)} {i : Nat} (HB : HasBag M i 0) : Fw (f__law_is_right [.loc i] M) fun r M' => r = .d (.bl true) := by
  unfold f__law_is_right
  rw [fw_fn, r__eq, wp_seq]
  refine (k1 HB (by omega)).mono ?_
  rintro fl s ⟨rfl, ns, lb, M1, rfl, H1, N⟩
  dsimp only
  rw [wp_seq]
  refine (k2 H1 (by omega) N).mono ?_
  rintro fl s ⟨rfl, es, M2, rfl, H2, G⟩
  dsimp only
  rw [wp_seq]
  refine (k3 G).mono ?_
  rintro fl s ⟨rfl, rfl⟩
  dsimp only
  rw [wp_seq]
  refine (r4s H2 (by omega) G).mono ?_
  rintro fl s ⟨rfl, x5, x6, x7, x8, x9, x10, M4, rfl, H4⟩
  dsimp only
  rw [wp_seq]
  refine (r5s H4 (by omega)).mono ?_
  rintro fl s ⟨rfl, wr, M5, rfl, hw, H5⟩
  dsimp only
  rw [wp_seq]
  refine (r6s H5 (by omega)).mono ?_
  rintro fl s ⟨rfl, fa, M6, rfl, hf, H6⟩
  dsimp only
  rw [wp_seq]
  refine (r7s H6 (by omega) G).mono ?_
  rintro fl s ⟨rfl, nd, M7, rfl, hnd, H7⟩
  dsimp only
  rw [wp_seq]
  refine r8s.mono ?_
  rintro fl s ⟨rfl, rfl⟩
  dsimp only
  rw [wp_seq]
  refine (r9s hw).mono ?_
  rintro fl s ⟨rfl, rfl⟩
  dsimp only
  rw [wp_seq]
  refine (r10s hf G hnd).mono ?_
  rintro fl s ⟨rfl, rfl⟩
  dsimp only
  refine (r11s hw hf G hnd).mono ?_
  rintro fl s rfl
  simp [-Prod.exists, retR]
theorem plain (ns : List Int) (h : ns.length ≤ 63) : ∃ M, f_law [.d (.scr (ns.map D.int))] [] = some (.ok (.d (.bl true)), M) := by
  have big := big
  have key : Fw (f_law [.d (.scr (ns.map D.int))] []) fun r M => r = .d (.bl true) := by
    have k3 : okM 8 [D.str "walk", .str "trail", .str "path"] := ok3
    have e := opEq_tup (neg := false) k3 k3
    rw [dEqs_refl k3] at e
    unfold f_law
    rw [fw_fn]
    unfold c_law
    generalize hr : f__law_is_right = fr
    simp [-Prod.exists]
    refine ⟨by unfold iMax iMin smallI; split <;> (try split) <;> simp <;> omega, ?_⟩
    refine wp_loop (fun j s => ∃ t M, s = ⟨[.w (.d (.scr (ns.map D.int))), t], M, 0⟩) ⟨_, _, rfl⟩ ?_ ?_
    · rintro j d s hd ⟨t, M, rfl⟩
      obtain ⟨rfl, hj⟩ := rngD_get hd
      have hj3 : j < 3 := by
        unfold iMax iMin at hj
        split at hj <;> (try split at hj) <;> omega
      refine ⟨_, rfl, ?_⟩
      simp [-Prod.exists]
      refine (bag_spec hj3).mono fun r M' ⟨c, e1, B, e2⟩ => ?_
      subst e1 e2
      simp [-Prod.exists]
      subst hr
      refine (right_spec (M := M' ++ [some c]) ⟨c, by rw [get_app2 rfl]; rfl, B⟩).mono fun r M' e1 => ?_
      subst e1
      simp [-Prod.exists]
    · rintro s ⟨t, M, rfl⟩
      simp [-Prod.exists, e]
      omega
  obtain ⟨r, M, e, rfl⟩ := key.get
  exact ⟨M, e⟩
end L_k06

set_option maxHeartbeats 0
namespace L_k06
open PySem PyProof.Rows L2 He Pm
abbrev R : PySem.W.OpenRow := PySem.W.OpenLaw.row PySem.Challenge.rw_pathmodes_k06_ways_judged
abbrev hk : PySem.W.Hook := hookY 5 faL fnL smL exL
def ob (s : PySem.W.SharedT) : AlY := obsY 5 faL fnL smL exL (HandSHeadRun.getT s)
theorem ob_eq (s : PySem.W.SharedT) : ob s = hk.obs s.abs := obsY_eq (HandSHeadRun.getT_eq s)
def loose : List Str := ("_wall" : Str) :: ("PathmodesError" : Str) :: ("BadLabel" : Str) :: ("BadNode" : Str) :: ("BadEdge" : Str) :: ("BadManner" : Str) :: ("NoNode" : Str) :: ("MANNERS" : Str) :: ("Manner" : Str) :: ("check_nodes" : Str) :: ("word_of" : Str) :: ("is_way" : Str) :: ("LETTERS" : Str) :: ("DIGITS" : Str) :: ("LONGEST" : Str) :: ("is_label" : Str) :: ("is_node" : Str) :: ("is_edge" : Str) :: ("check_edges" : Str) :: ("ends_of" : Str) :: ("Graph" : Str) :: ("_law_bag" : Str) :: ("_law_take" : Str) :: ("_law_of" : Str) :: ("_law_name" : Str) :: ("_law_names" : Str) :: ("_law_edges" : Str) :: ("_law_each" : Str) :: ("_law_ends" : Str) :: ("_law_drawn" : Str) :: ("_law_bent" : Str) :: ("_law_fits" : Str) :: ("_law_refused" : Str) :: ("_law_is_right" : Str) :: []
theorem run (w : World) : HandSHeadRun.RunEq R (PySem.W.view R.prog [38]) hk ob 4000 loose w := by
  intro os
  kernel_rfl
end L_k06
open PySem PySem.W PySem.Calls PyProof.Rows L2 He Pm L_k06
theorem PySem.Challenge.cw_pathmodes_k06_ways_judged_holds : PySem.Challenge.rw_pathmodes_k06_ways_judged.Holds := by
  w_on; o_law
  refine HandSHeadRun.head_any (r := L_k06.R) (q := view L_k06.R.prog [38]) (H := L_k06.hk) (ob := L_k06.ob) (M := 4000) (loose := L_k06.loose) (d := HandSHeadRun.topDef L_k06.R.prog 38) (kwd := []) L_k06.ob_eq (by kernel_rfl) (fun s => by kernel_rfl) L_k06.run (by kernel_rfl) (by kernel_rfl) (by kernel_rfl) (by rfl) (by first | assumption | decide +kernel) (by decide +kernel) ⟨rfl, rfl, rfl, rfl, rfl, by decide +kernel⟩ ?hw ?hc
  case hw => w_witness2
  case hc =>
    refine Pm.walkZ (l := PySem.Challenge.rw_pathmodes_k06_ways_judged) (n := 63) (k := 7) (fs := L_k06.f_law) rfl (by decide) (by kernel_rfl) ⟨rfl, by decide, by decide⟩ ?F L_k06.plain
    intro w mg fa h Y G hmg0
    obtain ⟨K, KX, c1, c2, c3⟩ := Y
    have hn : (HandSHeadRun.topDef L_k06.R.prog 38).name = ("law" : PySem.Str) := by kernel_rfl
    rw [hn] at hmg0
    have T0 := fun base => L_k06.tx_of (P := (PySem.Challenge.rw_pathmodes_k06_ways_judged).prog) (w := w) (base := base) KX G c1 c3 c2
    have hb := L2.FunD.bindsA (ps := ["script"]) (T0 h).d_law fun _ _ _ _ _ _ us hl => match us, hl with | [_], _ => rfl
    have e := hmg0.symm.trans (T0 h).g_law
    cases e
    exact ⟨K, L_k06.gc K, _, KX, fun s u => hb s [u] rfl, fun base _ _ => L_k06.ok_law (T0 base)⟩
