import PyProof.Rows.All
import Wide.All
import OpenK.AllK
import Wide.FinOn
import HandS.ForMost
import HandS.ForExc
import HandS.TryMany
import HandS.ExcInit
import HandS.ExcField
import HandS.Flow
import HandS.Style
import HandS.IsInst
import KE.DataEq
import HandS.Wide
import HandS.TupMul
import HandS.TupAny
import KE.GoesEnum
import HandS.EndBits
import PySem.Challenge.RW_letterfolds_k81_identities_that_are_read
set_option Elab.async false
set_option linter.all false
set_option maxRecDepth 100000
/-! Zed 1: abstract values, the abstract heap, what is related to what. -/
namespace Zed
open PySem L2

abbrev St := L2.St
abbrev Binds := @L2.Binds
/-- a value; a tuple is a value, so is a list that is only read (lit); a list, a dict, an instance is a number of the abstract heap -/
inductive Z where
  | non | bl (b : Bool) | int (i : Int) | str (s : Str) | tup (xs : List Z) | lit (xs : List Z) | ref (n : Nat) | cod (i : Nat)

/-- an object: a list; a dict; an instance of class c -/
inductive ZO where
  | lst (xs : List Z)
  | dct (kvs : List (Z × Z))
  | ins (c : Nat) (fs : List (Option Z))

/-- a tree by the bits of a number -/
inductive Tr where
  | nil
  | nd (l : Tr) (o : Option ZO) (r : Tr)
def Tr.get : Tr → Nat → Option ZO
  | .nil, _ => none
  | .nd l o r, n => if n = 0 then o else if n % 2 = 1 then l.get (n / 2) else r.get (n / 2 - 1)
def Tr.l : Tr → Tr
  | .nil => .nil
  | .nd l _ _ => l
def Tr.r : Tr → Tr
  | .nil => .nil
  | .nd _ _ r => r
def Tr.o : Tr → Option ZO
  | .nil => none
  | .nd _ o _ => o
/-- k: at least n -/
def Tr.set : Nat → Tr → Nat → ZO → Tr
  | 0, t, _, x => .nd t.l (some x) t.r
  | k + 1, t, n, x => if n = 0 then .nd t.l (some x) t.r else if n % 2 = 1 then .nd (Tr.set k t.l (n / 2) x) t.o t.r else .nd t.l t.o (Tr.set k t.r (n / 2 - 1) x)
theorem Tr.get_nd (l : Tr) (o : Option ZO) (r : Tr) (n : Nat) : (Tr.nd l o r).get n = if n = 0 then o else if n % 2 = 1 then l.get (n / 2) else r.get (n / 2 - 1) := rfl
theorem Tr.get_eq (t : Tr) (n : Nat) : t.get n = if n = 0 then t.o else if n % 2 = 1 then t.l.get (n / 2) else t.r.get (n / 2 - 1) := by
  cases t with
  | nil =>
    show none = _
    split
    · rfl
    · split <;> rfl
  | nd l o r => rfl
theorem Tr.get_set : ∀ (k : Nat) (t : Tr) (n : Nat) (x : ZO) (m : Nat), n ≤ k → (Tr.set k t n x).get m = if m = n then some x else t.get m
  | 0, t, n, x, m, h => by
    have e : n = 0 := by omega
    subst e
    show (Tr.nd t.l (some x) t.r).get m = _
    rw [Tr.get_nd, Tr.get_eq t m]
    by_cases hm : m = 0
    · rw [if_pos hm, if_pos hm]
    · rw [if_neg hm, if_neg hm, if_neg hm]
  | k + 1, t, n, x, m, h => by
    show (if n = 0 then Tr.nd t.l (some x) t.r else if n % 2 = 1 then .nd (Tr.set k t.l (n / 2) x) t.o t.r else .nd t.l t.o (Tr.set k t.r (n / 2 - 1) x) : Tr).get m = _
    by_cases h0 : n = 0
    · subst h0
      rw [if_pos rfl, Tr.get_nd, Tr.get_eq t m]
      by_cases hm : m = 0
      · rw [if_pos hm, if_pos hm]
      · rw [if_neg hm, if_neg hm, if_neg hm]
    · rw [if_neg h0]
      by_cases h1 : n % 2 = 1
      · rw [if_pos h1, Tr.get_nd, Tr.get_eq t m, Tr.get_set k t.l (n / 2) x (m / 2) (by omega)]
        by_cases hm : m = 0
        · rw [if_pos hm, if_pos hm, if_neg (by omega)]
        · rw [if_neg hm, if_neg hm]
          by_cases hm1 : m % 2 = 1
          · rw [if_pos hm1, if_pos hm1]
            by_cases e : m = n
            · rw [if_pos e, if_pos (by omega)]
            · rw [if_neg e, if_neg (by omega)]
          · rw [if_neg hm1, if_neg hm1, if_neg (by omega)]
      · rw [if_neg h1, Tr.get_nd, Tr.get_eq t m, Tr.get_set k t.r (n / 2 - 1) x (m / 2 - 1) (by omega)]
        by_cases hm : m = 0
        · rw [if_pos hm, if_pos hm, if_neg (by omega)]
        · rw [if_neg hm, if_neg hm]
          by_cases hm1 : m % 2 = 1
          · rw [if_pos hm1, if_pos hm1, if_neg (by omega)]
          · rw [if_neg hm1, if_neg hm1]
            by_cases e : m = n
            · rw [if_pos e, if_pos (by omega)]
            · rw [if_neg e, if_neg (by omega)]

/-- the abstract heap: the numbers below n are taken -/
structure ZH where
  n : Nat
  t : Tr
def ZH.get (A : ZH) (m : Nat) : Option ZO := A.t.get m
def ZH.set (A : ZH) (m : Nat) (o : ZO) : ZH := ⟨A.n, Tr.set m A.t m o⟩
def ZH.push (A : ZH) (o : ZO) : ZH := ⟨A.n + 1, Tr.set A.n A.t A.n o⟩
theorem ZH.get_set (A : ZH) (m : Nat) (o : ZO) (k : Nat) : (A.set m o).get k = if k = m then some o else A.get k := Tr.get_set m A.t m o k (Nat.le_refl _)
theorem ZH.get_push (A : ZH) (o : ZO) (k : Nat) : (A.push o).get k = if k = A.n then some o else A.get k := Tr.get_set A.n A.t A.n o k (Nat.le_refl _)
@[simp] theorem ZH.n_set (A : ZH) (m : Nat) (o : ZO) : (A.set m o).n = A.n := rfl
@[simp] theorem ZH.n_push (A : ZH) (o : ZO) : (A.push o).n = A.n + 1 := rfl
@[simp] theorem ZH.get_set_same (A : ZH) (m : Nat) (o : ZO) : (A.set m o).get m = some o := by rw [ZH.get_set, if_pos rfl]
theorem ZH.get_set_ne (A : ZH) {m k : Nat} (o : ZO) (h : k ≠ m) : (A.set m o).get k = A.get k := by rw [ZH.get_set, if_neg h]
@[simp] theorem ZH.get_push_same (A : ZH) (o : ZO) : (A.push o).get A.n = some o := by rw [ZH.get_push, if_pos rfl]
theorem ZH.get_push_lt (A : ZH) {k : Nat} (o : ZO) (h : k < A.n) : (A.push o).get k = A.get k := by rw [ZH.get_push, if_neg (by omega)]
def ZH.nil : ZH := ⟨0, .nil⟩

/-- what is fixed: the written part, the classes' addresses and fields (in order), the codes' addresses -/
structure G where
  K : PySem.W.Frag
  cls : Nat → Addr
  fld : Nat → List Str
  cod : Nat → Option Addr

def TupAt (K : PySem.W.Frag) (H : Hp) (a : Addr) (xs : List V) : Prop :=
  H a = some (.tup xs) ∨ ∃ (o : Obj) (its : Array Value) (n : Nat), K.lookup a = some o ∧ o.cls = .type "tuple" ∧ o.data = .seq its n ∧ its.size ≤ sizeLine ∧ Vals xs its.toList
theorem TupAt.sq {K : PySem.W.Frag} {H : Hp} {a : Addr} {xs : List V} (h : TupAt K H a xs) : SqT K H a xs := by
  rcases h with h | h
  · exact .inl (.inl h)
  · exact .inr h
/-- a list that is only read: locked, or of the written part -/
def LitAt (K : PySem.W.Frag) (H : Hp) (a : Addr) (xs : List V) : Prop :=
  (∃ o, H a = some (.frz o (.lst xs))) ∨ ∃ (o : Obj) (its : Array Value) (n : Nat), K.lookup a = some o ∧ o.cls = .type "list" ∧ o.dict = none ∧ o.data = .seq its n ∧ its.size ≤ sizeLine ∧ Vals xs its.toList
theorem LitAt.sq {K : PySem.W.Frag} {H : Hp} {a : Addr} {xs : List V} (h : LitAt K H a xs) : SqL K H a xs := by
  rcases h with ⟨o, h⟩ | h
  · exact .inl (.inr ⟨o, h⟩)
  · exact .inr h

/-! ### values -/
mutual
inductive RZ (g : G) (ρ : List Addr) (H : Hp) : Z → V → Prop
  | non : RZ g ρ H .non .non
  | bl (b : Bool) : RZ g ρ H (.bl b) (.bl b)
  | int (i : Int) : RZ g ρ H (.int i) (.int i)
  | str (s : Str) : RZ g ρ H (.str s) (.str s)
  | tup {xs : List Z} {vs : List V} {a : Addr} (r : RZs g ρ H xs vs) (t : TupAt g.K H a vs) : RZ g ρ H (.tup xs) (.ref a)
  | lit {xs : List Z} {vs : List V} {a : Addr} (r : RZs g ρ H xs vs) (t : LitAt g.K H a vs) : RZ g ρ H (.lit xs) (.ref a)
  | ref {n : Nat} {a : Addr} (h : ρ[n]? = some a) : RZ g ρ H (.ref n) (.ref a)
  | cod {i : Nat} {a : Addr} (h : g.cod i = some a) : RZ g ρ H (.cod i) (.ref a)
inductive RZs (g : G) (ρ : List Addr) (H : Hp) : List Z → List V → Prop
  | nil : RZs g ρ H [] []
  | cons {z : Z} {v : V} {zs : List Z} {vs : List V} (r : RZ g ρ H z v) (t : RZs g ρ H zs vs) : RZs g ρ H (z :: zs) (v :: vs)
end

/-- what stays wherever it stands: tuples, locked lists -/
def Fix (o : HO) : Prop := (∃ xs, o = HO.tup xs) ∨ ∃ ob xs, o = HO.frz ob (.lst xs)
/-- how things go on: ρ grows by new addresses, what ρ does not know stays, tuples stay -/
structure Ext (ρ : List Addr) (H : Hp) (ρ' : List Addr) (H' : Hp) : Prop where
  ext : ∃ t, ρ' = ρ ++ t ∧ ∀ a ∈ t, H a = none
  keep : ∀ a o, (a ∉ ρ ∨ Fix o) → H a = some o → H' a = some o
  there : ∀ a o, H a = some o → ∃ o', H' a = some o'
theorem Ext.refl (ρ : List Addr) (H : Hp) : Ext ρ H ρ H := ⟨⟨[], by simp, fun a h => by simp at h⟩, fun _ _ _ h => h, fun _ o h => ⟨o, h⟩⟩
theorem Ext.trans {ρ ρ1 ρ2 : List Addr} {H H1 H2 : Hp} (a : Ext ρ H ρ1 H1) (b : Ext ρ1 H1 ρ2 H2) : Ext ρ H ρ2 H2 := by
  obtain ⟨t1, e1, n1⟩ := a.ext
  obtain ⟨t2, e2, n2⟩ := b.ext
  refine ⟨⟨t1 ++ t2, by rw [e2, e1, List.append_assoc], fun x hx => ?_⟩, fun x o h e => ?_, fun x o e => ?_⟩
  · rcases List.mem_append.mp hx with h | h
    · exact n1 x h
    · cases q : H x with
      | none => rfl
      | some o =>
        obtain ⟨o', e'⟩ := a.there x o q
        rw [n2 x h] at e'
        cases e'
  · refine b.keep x o ?_ (a.keep x o h e)
    rcases h with h | h
    · left
      rw [e1]
      intro hx
      rcases List.mem_append.mp hx with k | k
      · exact h k
      · rw [n1 x k] at e
        cases e
    · exact .inr h
  · obtain ⟨o1, e1⟩ := a.there x o e
    exact b.there x o1 e1
theorem Ext.tup {g : G} {ρ ρ' : List Addr} {H H' : Hp} {a : Addr} {xs : List V} (e : Ext ρ H ρ' H') (h : TupAt g.K H a xs) : TupAt g.K H' a xs := by
  rcases h with h | h
  · exact .inl (e.keep a _ (.inr (.inl ⟨xs, rfl⟩)) h)
  · exact .inr h
theorem Ext.get {ρ ρ' : List Addr} {H H' : Hp} {n : Nat} {a : Addr} (e : Ext ρ H ρ' H') (h : ρ[n]? = some a) : ρ'[n]? = some a := by
  obtain ⟨t, rfl, _⟩ := e.ext
  rw [List.getElem?_append_left (List.getElem?_eq_some_iff.mp h).1]
  exact h

/-- all that values lean on -/
structure Ex0 (ρ : List Addr) (H : Hp) (ρ' : List Addr) (H' : Hp) : Prop where
  get : ∀ {n : Nat} {a : Addr}, ρ[n]? = some a → ρ'[n]? = some a
  fix : ∀ {a : Addr} {o : HO}, Fix o → H a = some o → H' a = some o
theorem Ext.ex0 {ρ ρ' : List Addr} {H H' : Hp} (e : Ext ρ H ρ' H') : Ex0 ρ H ρ' H' := ⟨fun h => e.get h, fun {a o} k h => e.keep a o (.inr k) h⟩
theorem Ex0.tupAt {K : PySem.W.Frag} {ρ ρ' : List Addr} {H H' : Hp} {a : Addr} {xs : List V} (e : Ex0 ρ H ρ' H') (h : TupAt K H a xs) : TupAt K H' a xs := by
  rcases h with h | h
  · exact .inl (e.fix (.inl ⟨_, rfl⟩) h)
  · exact .inr h
theorem Ex0.litAt {K : PySem.W.Frag} {ρ ρ' : List Addr} {H H' : Hp} {a : Addr} {xs : List V} (e : Ex0 ρ H ρ' H') (h : LitAt K H a xs) : LitAt K H' a xs := by
  rcases h with ⟨o, h⟩ | h
  · exact .inl ⟨o, e.fix (.inr ⟨_, _, rfl⟩) h⟩
  · exact .inr h
mutual
theorem RZ.mono0 {g : G} {ρ ρ' : List Addr} {H H' : Hp} (e : Ex0 ρ H ρ' H') : ∀ {z : Z} {v : V}, RZ g ρ H z v → RZ g ρ' H' z v
  | _, _, .non => .non
  | _, _, .bl b => .bl b
  | _, _, .int i => .int i
  | _, _, .str s => .str s
  | _, _, .tup r t => .tup (RZs.mono0 e r) (e.tupAt t)
  | _, _, .lit r t => .lit (RZs.mono0 e r) (e.litAt t)
  | _, _, .ref h => .ref (e.get h)
  | _, _, .cod h => .cod h
theorem RZs.mono0 {g : G} {ρ ρ' : List Addr} {H H' : Hp} (e : Ex0 ρ H ρ' H') : ∀ {zs : List Z} {vs : List V}, RZs g ρ H zs vs → RZs g ρ' H' zs vs
  | _, _, .nil => .nil
  | _, _, .cons r t => .cons (RZ.mono0 e r) (RZs.mono0 e t)
end
theorem RZ.mono {g : G} {ρ ρ' : List Addr} {H H' : Hp} (e : Ext ρ H ρ' H') {z : Z} {v : V} (h : RZ g ρ H z v) : RZ g ρ' H' z v := h.mono0 e.ex0
theorem RZs.mono {g : G} {ρ ρ' : List Addr} {H H' : Hp} (e : Ext ρ H ρ' H') {z : List Z} {v : List V} (h : RZs g ρ H z v) : RZs g ρ' H' z v := h.mono0 e.ex0

section
variable {g : G} {ρ ρ' : List Addr} {H H' : Hp}
theorem RZs.length : ∀ {zs : List Z} {vs : List V}, RZs g ρ H zs vs → zs.length = vs.length
  | _, _, .nil => rfl
  | _, _, .cons _ t => by rw [List.length_cons, List.length_cons, RZs.length t]
theorem RZs.append : ∀ {zs : List Z} {vs : List V} {ys : List Z} {ws : List V}, RZs g ρ H zs vs → RZs g ρ H ys ws → RZs g ρ H (zs ++ ys) (vs ++ ws)
  | _, _, _, _, .nil, s => s
  | _, _, _, _, .cons r t, s => .cons r (RZs.append t s)
theorem RZs.get : ∀ {zs : List Z} {vs : List V} {i : Nat} {z : Z}, RZs g ρ H zs vs → zs[i]? = some z → ∃ v, vs[i]? = some v ∧ RZ g ρ H z v
  | _, _, _, _, .nil, e => by simp at e
  | _, _, 0, _, .cons r _, e => by simp at e; subst e; exact ⟨_, rfl, r⟩
  | _, _, i + 1, _, .cons _ t, e => by
    obtain ⟨v, h1, h2⟩ := RZs.get (i := i) t (by simpa using e)
    exact ⟨v, by simpa using h1, h2⟩
theorem RZs.getV : ∀ {zs : List Z} {vs : List V} {i : Nat} {v : V}, RZs g ρ H zs vs → vs[i]? = some v → ∃ z, zs[i]? = some z ∧ RZ g ρ H z v
  | _, _, _, _, .nil, e => by simp at e
  | _, _, 0, _, .cons r _, e => by simp at e; subst e; exact ⟨_, rfl, r⟩
  | _, _, i + 1, _, .cons _ t, e => by
    obtain ⟨v, h1, h2⟩ := RZs.getV (i := i) t (by simpa using e)
    exact ⟨v, by simpa using h1, h2⟩
theorem RZs.set {z : Z} {v : V} (r : RZ g ρ H z v) : ∀ {zs : List Z} {vs : List V} (i : Nat), RZs g ρ H zs vs → RZs g ρ H (zs.set i z) (vs.set i v)
  | _, _, _, .nil => .nil
  | _, _, 0, .cons _ t => .cons r t
  | _, _, i + 1, .cons q t => .cons q (RZs.set r i t)
theorem RZs.take : ∀ {zs : List Z} {vs : List V} (n : Nat), RZs g ρ H zs vs → RZs g ρ H (zs.take n) (vs.take n)
  | _, _, 0, _ => .nil
  | _, _, _ + 1, .nil => .nil
  | _, _, n + 1, .cons r t => .cons r (RZs.take n t)
theorem RZs.drop : ∀ {zs : List Z} {vs : List V} (n : Nat), RZs g ρ H zs vs → RZs g ρ H (zs.drop n) (vs.drop n)
  | _, _, 0, r => r
  | _, _, _ + 1, .nil => .nil
  | _, _, n + 1, .cons _ t => RZs.drop n t
theorem RZs.reverse {zs : List Z} {vs : List V} (h : RZs g ρ H zs vs) : RZs g ρ H zs.reverse vs.reverse := by
  induction zs generalizing vs with
  | nil => cases h; exact .nil
  | cons z zs ih =>
    cases h with
    | cons r t =>
      rw [List.reverse_cons, List.reverse_cons]
      exact (ih t).append (.cons r .nil)
theorem RZs.dropLast : ∀ {zs : List Z} {vs : List V}, RZs g ρ H zs vs → RZs g ρ H zs.dropLast vs.dropLast
  | _, _, .nil => .nil
  | _, _, .cons _ .nil => .nil
  | _, _, .cons r (.cons q t) => .cons r (RZs.dropLast (.cons q t))
theorem RZs.ints : ∀ (ns : List Int), RZs g ρ H (ns.map Z.int) (ns.map V.int)
  | [] => .nil
  | n :: r => .cons (.int n) (RZs.ints r)
theorem RZs.strs : ∀ (ns : List Str), RZs g ρ H (ns.map Z.str) (ns.map V.str)
  | [] => .nil
  | n :: r => .cons (.str n) (RZs.strs r)
theorem RZs.intsV : ∀ {ns : List Int} {vs : List V}, RZs g ρ H (ns.map Z.int) vs → vs = ns.map V.int
  | [], _, .nil => rfl
  | n :: r, _, .cons (.int _) t => by rw [RZs.intsV t]; rfl
theorem RZs.strsV : ∀ {ns : List Str} {vs : List V}, RZs g ρ H (ns.map Z.str) vs → vs = ns.map V.str
  | [], _, .nil => rfl
  | n :: r, _, .cons (.str _) t => by rw [RZs.strsV t]; rfl
end

/-! ### objects -/
/-- fields by name -/
def RF1 (g : G) (ρ : List Addr) (H : Hp) : Option Z → Option V → Prop
  | some z, some v => RZ g ρ H z v
  | none, none => True
  | _, _ => False
structure RFs (g : G) (ρ : List Addr) (H : Hp) (c : Nat) (fs : List (Option Z)) (ks : List (Str × V)) : Prop where
  at_ : ∀ (i : Nat) (x : Str), (g.fld c)[i]? = some x → RF1 g ρ H (fs[i]?.join) (ks.lookup x)
  no : ∀ x : Str, x ∉ g.fld c → ks.lookup x = none
  nd : (ks.map (·.1)).Nodup
  sub : ∀ x ∈ ks.map (·.1), x ∈ g.fld c
def keyZ : Z → Option Key
  | .int i => some (.inl i)
  | .str s => some (.inr s)
  | _ => none
/-- a dict's pairs, keys ints and texts -/
inductive RKs (g : G) (ρ : List Addr) (H : Hp) : List (Z × Z) → List (Key × V) → Prop
  | nil : RKs g ρ H [] []
  | cons {k : Z} {k' : Key} {z : Z} {v : V} {r : List (Z × Z)} {r' : List (Key × V)} (hk : keyZ k = some k') (hv : RZ g ρ H z v) (t : RKs g ρ H r r') : RKs g ρ H ((k, z) :: r) ((k', v) :: r')
inductive RO (g : G) (ρ : List Addr) (H : Hp) : ZO → HO → Prop
  | lst {xs : List Z} {vs : List V} (r : RZs g ρ H xs vs) : RO g ρ H (.lst xs) (.lst vs)
  | dct {kvs : List (Z × Z)} {ks : List (Key × V)} (r : RKs g ρ H kvs ks) : RO g ρ H (.dct kvs) (.dK ks)
  | ins {c : Nat} {dx : Addr} {fs : List (Option Z)} {ks : List (Str × V)} (r : RFs g ρ H c fs ks) (hd : dx ∉ ρ) : RO g ρ H (.ins c fs) (.ins (g.cls c) dx ks)
theorem len_sub {α : Type} : ∀ {l l' : List α}, l.Nodup → (∀ x ∈ l, x ∈ l') → l.length ≤ l'.length
  | [], _, _, _ => Nat.zero_le _
  | a :: r, l', nd, h => by
    obtain ⟨s, t, e⟩ := List.append_of_mem (h a List.mem_cons_self)
    have k := len_sub (l := r) (l' := s ++ t) (List.nodup_cons.mp nd).2 fun x hx => by
      have hm := h x (List.mem_cons_of_mem _ hx)
      rw [e] at hm
      have ne : x ≠ a := by rintro rfl; exact (List.nodup_cons.mp nd).1 hx
      rcases List.mem_append.mp hm with q | q
      · exact List.mem_append_left _ q
      · rcases List.mem_cons.mp q with q | q
        · exact absurd q ne
        · exact List.mem_append_right _ q
    rw [e, List.length_cons, List.length_append, List.length_cons]
    rw [List.length_append] at k
    omega
theorem RFs.few {g : G} {ρ : List Addr} {H : Hp} {c : Nat} {fs : List (Option Z)} {ks : List (Str × V)} (h : RFs g ρ H c fs ks) : ks.length ≤ (g.fld c).length := by
  have q := len_sub h.nd h.sub
  rwa [List.length_map] at q
theorem RKs.mono0 {g : G} {ρ ρ' : List Addr} {H H' : Hp} (e : Ex0 ρ H ρ' H') : ∀ {l : List (Z × Z)} {l' : List (Key × V)}, RKs g ρ H l l' → RKs g ρ' H' l l'
  | _, _, .nil => .nil
  | _, _, .cons hk hv t => .cons hk (hv.mono0 e) (RKs.mono0 e t)
theorem RF1.mono {g : G} {ρ ρ' : List Addr} {H H' : Hp} (e : Ex0 ρ H ρ' H') {a : Option Z} {b : Option V} (h : RF1 g ρ H a b) : RF1 g ρ' H' a b := by
  cases a with
  | none => cases b with
    | none => trivial
    | some _ => exact h.elim
  | some z => cases b with
    | none => exact h.elim
    | some v => exact RZ.mono0 e h
theorem RFs.mono0 {g : G} {ρ ρ' : List Addr} {H H' : Hp} (e : Ex0 ρ H ρ' H') {c : Nat} {fs : List (Option Z)} {ks : List (Str × V)} (h : RFs g ρ H c fs ks) : RFs g ρ' H' c fs ks :=
  ⟨fun i x hx => (h.at_ i x hx).mono e, h.no, h.nd, h.sub⟩
theorem RFs.mono {g : G} {ρ ρ' : List Addr} {H H' : Hp} (e : Ext ρ H ρ' H') {c : Nat} {fs : List (Option Z)} {ks : List (Str × V)} (h : RFs g ρ H c fs ks) : RFs g ρ' H' c fs ks := h.mono0 e.ex0
/-- the addresses of instances' dicts are never numbered: told apart by what stands there -/
theorem RO.mono {g : G} {ρ ρ' : List Addr} {H H' : Hp} (e : Ext ρ H ρ' H') {o : ZO} {ho : HO} (h : RO g ρ H o ho) (hd : ∀ C dx ks, ho = .ins C dx ks → ∃ u, H dx = some u) : RO g ρ' H' o ho := by
  cases h with
  | lst r => exact .lst (r.mono e)
  | dct r => exact .dct (r.mono0 e.ex0)
  | ins r nd =>
    refine .ins (r.mono e) fun hm => ?_
    obtain ⟨t, e1, n1⟩ := e.ext
    rw [e1] at hm
    rcases List.mem_append.mp hm with k | k
    · exact nd k
    · obtain ⟨u, hu⟩ := hd _ _ _ rfl
      rw [n1 _ k] at hu
      cases hu

/-! ### the heaps -/
structure RH (g : G) (ρ : List Addr) (A : ZH) (H : Hp) : Prop where
  len : ρ.length = A.n
  nd : ρ.Nodup
  ob : ∀ (n : Nat) (a : Addr), ρ[n]? = some a → ∃ o ho, A.get n = some o ∧ H a = some ho ∧ RO g ρ H o ho ∧ ∀ C dx ks, ho = .ins C dx ks → H dx = some (.own a)

section
variable {g : G} {ρ : List Addr} {A : ZH} {H : Hp}
theorem RH.get (R : RH g ρ A H) {n : Nat} {o : ZO} {a : Addr} (ha : ρ[n]? = some a) (ho : A.get n = some o) : ∃ q, H a = some q ∧ RO g ρ H o q ∧ ∀ C dx ks, q = .ins C dx ks → H dx = some (.own a) := by
  obtain ⟨o', q, e1, e2, e3, e4⟩ := R.ob n a ha
  rw [ho] at e1
  cases e1
  exact ⟨q, e2, e3, e4⟩
theorem RH.lst (R : RH g ρ A H) {n : Nat} {xs : List Z} {a : Addr} (ha : ρ[n]? = some a) (ho : A.get n = some (.lst xs)) : ∃ vs, H a = some (.lst vs) ∧ RZs g ρ H xs vs := by
  obtain ⟨q, e, r, _⟩ := R.get ha ho
  cases r with
  | lst r => exact ⟨_, e, r⟩
theorem RH.dct (R : RH g ρ A H) {n : Nat} {kvs : List (Z × Z)} {a : Addr} (ha : ρ[n]? = some a) (ho : A.get n = some (.dct kvs)) : ∃ ks, H a = some (.dK ks) ∧ RKs g ρ H kvs ks := by
  obtain ⟨q, e, r, _⟩ := R.get ha ho
  cases r with
  | dct r => exact ⟨_, e, r⟩
theorem RH.ins (R : RH g ρ A H) {n c : Nat} {fs : List (Option Z)} {a : Addr} (ha : ρ[n]? = some a) (ho : A.get n = some (.ins c fs)) : ∃ dx ks, H a = some (.ins (g.cls c) dx ks) ∧ RFs g ρ H c fs ks ∧ dx ∉ ρ ∧ H dx = some (.own a) := by
  obtain ⟨q, e, r, k⟩ := R.get ha ho
  cases r with
  | ins r hd => exact ⟨_, _, e, r, hd, k _ _ _ rfl⟩
/-- an object that is not numbered, a list, is changed -/
theorem RO.same {ρ : List Addr} {H H' : Hp} (e : Ex0 ρ H ρ H') {o : ZO} {ho : HO} (h : RO g ρ H o ho) : RO g ρ H' o ho := by
  cases h with
  | lst r => exact .lst (r.mono0 e)
  | dct r => exact .dct (r.mono0 e)
  | ins r nd => exact .ins (r.mono0 e) nd
theorem RH.side {D : Addr} {vs ws : List V} (R : RH g ρ A H) (nD : D ∉ ρ) (hD : H D = some (.lst vs)) : RH g ρ A (L2.upd H D (.lst ws)) ∧ Ex0 ρ H ρ (L2.upd H D (.lst ws)) := by
  have e : Ex0 ρ H ρ (L2.upd H D (.lst ws)) := ⟨fun h => h, fun {a o} k h => by
    have ne : a ≠ D := by
      rintro rfl
      rw [hD] at h
      cases h
      rcases k with ⟨_, z⟩ | ⟨_, _, z⟩ <;> cases z
    rw [upd_ne ne]
    exact h⟩
  refine ⟨⟨R.len, R.nd, fun n a ha => ?_⟩, e⟩
  obtain ⟨o, q, e1, e2, e3, e4⟩ := R.ob n a ha
  have ne : a ≠ D := by
    rintro rfl
    exact nD (List.mem_of_getElem? ha)
  refine ⟨o, q, e1, by rw [upd_ne ne]; exact e2, e3.same e, fun C dx ks z => ?_⟩
  have nd : dx ≠ D := by
    rintro rfl
    rw [e4 C dx ks z] at hD
    cases hD
  rw [upd_ne nd]
  exact e4 C dx ks z
theorem RH.mem (R : RH g ρ A H) {a : Addr} (h : a ∈ ρ) : ∃ q, H a = some q ∧ ¬ Fix q := by
  obtain ⟨n, hn⟩ := List.mem_iff_getElem?.mp h
  obtain ⟨o, q, _, e, r, _⟩ := R.ob n a hn
  refine ⟨q, e, fun z => ?_⟩
  rcases z with ⟨xs, z⟩ | ⟨ob, xs, z⟩ <;> (subst z; cases r)
theorem RH.inj (R : RH g ρ A H) {n m : Nat} {a : Addr} (h1 : ρ[n]? = some a) (h2 : ρ[m]? = some a) : n = m := by
  obtain ⟨l1, e1⟩ := List.getElem?_eq_some_iff.mp h1
  obtain ⟨l2, e2⟩ := List.getElem?_eq_some_iff.mp h2
  exact (List.getElem_inj R.nd).mp (e1.trans e2.symm)
theorem mem_of_get {n : Nat} {a : Addr} (h : ρ[n]? = some a) : a ∈ ρ := List.mem_of_getElem? h

/-- nothing changes but what ρ does not know and what is new: for growing tuples, dicts of instances .. -/
theorem RH.keep {H' : Hp} (R : RH g ρ A H) (k : ∀ a o, H a = some o → H' a = some o) : RH g ρ A H' ∧ Ext ρ H ρ H' := by
  have e : Ext ρ H ρ H' := ⟨⟨[], by simp, fun a h => by simp at h⟩, fun a o _ h => k a o h, fun a o h => ⟨o, k a o h⟩⟩
  refine ⟨⟨R.len, R.nd, fun n a ha => ?_⟩, e⟩
  obtain ⟨o, q, e1, e2, e3, e4⟩ := R.ob n a ha
  exact ⟨o, q, e1, k _ _ e2, e3.mono e fun C dx ks z => ⟨_, e4 C dx ks z⟩, fun C dx ks z => k _ _ (e4 C dx ks z)⟩
/-- an object is changed -/
theorem RH.upd (R : RH g ρ A H) {n : Nat} {a : Addr} {o : ZO} {q : HO} (ha : ρ[n]? = some a) (r : RO g ρ H o q) (hk : ∀ C dx ks, q = .ins C dx ks → dx ≠ a ∧ H dx = some (.own a)) :
    RH g ρ (A.set n o) (L2.upd H a q) ∧ Ext ρ H ρ (L2.upd H a q) := by
  obtain ⟨q0, e0, nt⟩ := R.mem (mem_of_get ha)
  have e : Ext ρ H ρ (L2.upd H a q) := by
    refine ⟨⟨[], by simp, fun a h => by simp at h⟩, fun b o h eb => ?_, fun b o h => ?_⟩
    · have ne : b ≠ a := by
        rintro rfl
        rcases h with h | h
        · exact h (mem_of_get ha)
        · rw [e0] at eb
          cases eb
          exact nt h
      rw [upd_ne ne]
      exact eb
    · by_cases hb : b = a
      · subst hb
        exact ⟨q, upd_same⟩
      · exact ⟨o, by rw [upd_ne hb]; exact h⟩
  refine ⟨⟨R.len, R.nd, fun m b hb => ?_⟩, e⟩
  by_cases hm : m = n
  · subst hm
    rw [ha] at hb
    cases hb
    refine ⟨o, q, ZH.get_set_same _ _ _, upd_same, r.mono e fun C dx ks z => ⟨_, (hk C dx ks z).2⟩, fun C dx ks z => ?_⟩
    rw [upd_ne (hk C dx ks z).1]
    exact (hk C dx ks z).2
  · obtain ⟨o1, q1, f1, f2, f3, f4⟩ := R.ob m b hb
    have nb : b ≠ a := by
      rintro rfl
      exact hm (R.inj hb ha)
    refine ⟨o1, q1, by rw [ZH.get_set_ne _ _ hm]; exact f1, by rw [upd_ne nb]; exact f2, f3.mono e fun C dx ks z => ⟨_, f4 C dx ks z⟩, fun C dx ks z => ?_⟩
    have nd : dx ≠ a := by
      rintro rfl
      rw [f4 C dx ks z] at e0
      cases e0
      obtain ⟨_, _, _, e2, r2, _⟩ := R.ob n dx ha
      rw [f4 C dx ks z] at e2
      cases e2
      cases r2
    rw [upd_ne nd]
    exact f4 C dx ks z
/-- a new object -/
theorem RH.new (R : RH g ρ A H) {p : Addr} {o : ZO} {q : HO} (hp : H p = none) (r : RO g ρ H o q) (hq : ∀ C dx ks, q ≠ .ins C dx ks) (ht : ∀ xs, q ≠ .tup xs) :
    RH g (ρ ++ [p]) (A.push o) (L2.upd H p q) ∧ Ext ρ H (ρ ++ [p]) (L2.upd H p q) := by
  have e : Ext ρ H (ρ ++ [p]) (L2.upd H p q) := by
    refine ⟨⟨[p], rfl, fun a h => by simp at h; subst h; exact hp⟩, fun b o h eb => ?_, fun b o h => ?_⟩
    · rw [upd_ne (ne_of_none eb hp)]
      exact eb
    · exact ⟨o, by rw [upd_ne (ne_of_none h hp)]; exact h⟩
  have np : p ∉ ρ := fun h => by
    obtain ⟨q, e, _⟩ := R.mem h
    rw [hp] at e
    cases e
  refine ⟨⟨?_, ?_, fun m b hb => ?_⟩, e⟩
  · rw [List.length_append, List.length_singleton, ZH.n_push, R.len]
  · rw [List.nodup_append]
    refine ⟨R.nd, by simp, fun a ha b hb => ?_⟩
    simp at hb
    subst hb
    rintro rfl
    exact np ha
  · by_cases hm : m < ρ.length
    · rw [List.getElem?_append_left hm] at hb
      obtain ⟨o1, q1, f1, f2, f3, f4⟩ := R.ob m b hb
      refine ⟨o1, q1, by rw [ZH.get_push_lt _ _ (by rw [← R.len]; exact hm)]; exact f1, by rw [upd_ne (ne_of_none f2 hp)]; exact f2, f3.mono e fun C dx ks z => ⟨_, f4 C dx ks z⟩, fun C dx ks z => ?_⟩
      rw [upd_ne (ne_of_none (f4 C dx ks z) hp)]
      exact f4 C dx ks z
    · rw [List.getElem?_append_right (by omega)] at hb
      have hm' : m = ρ.length := by
        cases e2 : m - ρ.length with
        | zero => omega
        | succ k => rw [e2] at hb; simp at hb
      subst hm'
      simp at hb
      subst hb
      refine ⟨o, q, by rw [R.len]; exact ZH.get_push_same _ _, upd_same, r.mono e fun C dx ks z => absurd z (hq C dx ks), fun C dx ks z => absurd z (hq C dx ks)⟩
/-- a new instance with its dict -/
theorem RH.made (R : RH g ρ A H) {x dx : Addr} {c : Nat} (hx : H x = none) (hd : H dx = none) (ne : dx ≠ x) :
    RH g (ρ ++ [x]) (A.push (.ins c [])) (L2.upd (L2.upd H dx (.own x)) x (.ins (g.cls c) dx [])) ∧ Ext ρ H (ρ ++ [x]) (L2.upd (L2.upd H dx (.own x)) x (.ins (g.cls c) dx [])) := by
  have hk : ∀ a o, H a = some o → (L2.upd (L2.upd H dx (.own x)) x (.ins (g.cls c) dx [])) a = some o := fun a o h => by
    rw [upd_ne (ne_of_none h hx), upd_ne (ne_of_none h hd)]
    exact h
  have e : Ext ρ H (ρ ++ [x]) (L2.upd (L2.upd H dx (.own x)) x (.ins (g.cls c) dx [])) :=
    ⟨⟨[x], rfl, fun a h => by simp at h; subst h; exact hx⟩, fun b o h eb => hk b o eb, fun b o h => ⟨o, hk b o h⟩⟩
  have np : x ∉ ρ := fun h => by
    obtain ⟨q, e, _⟩ := R.mem h
    rw [hx] at e
    cases e
  have nd : dx ∉ ρ ++ [x] := fun h => by
    rcases List.mem_append.mp h with h | h
    · obtain ⟨q, e, _⟩ := R.mem h
      rw [hd] at e
      cases e
    · simp at h
      exact ne h
  refine ⟨⟨?_, ?_, fun m b hb => ?_⟩, e⟩
  · rw [List.length_append, List.length_singleton, ZH.n_push, R.len]
  · rw [List.nodup_append]
    refine ⟨R.nd, by simp, fun a ha b hb => ?_⟩
    simp at hb
    subst hb
    rintro rfl
    exact np ha
  · by_cases hm : m < ρ.length
    · rw [List.getElem?_append_left hm] at hb
      obtain ⟨o1, q1, f1, f2, f3, f4⟩ := R.ob m b hb
      exact ⟨o1, q1, by rw [ZH.get_push_lt _ _ (by rw [← R.len]; exact hm)]; exact f1, hk _ _ f2, f3.mono e fun C dx ks z => ⟨_, f4 C dx ks z⟩, fun C dx ks z => hk _ _ (f4 C dx ks z)⟩
    · rw [List.getElem?_append_right (by omega)] at hb
      have hm' : m = ρ.length := by
        cases e2 : m - ρ.length with
        | zero => omega
        | succ k => rw [e2] at hb; simp at hb
      subst hm'
      simp at hb
      subst hb
      refine ⟨.ins c [], _, by rw [R.len]; exact ZH.get_push_same _ _, upd_same, ?_, fun C dy ks z => ?_⟩
      · refine .ins ⟨fun i y hy => ?_, fun y hy => rfl, List.nodup_nil, fun _ h => absurd h (by simp)⟩ nd
        have z : (([] : List (Option Z))[i]?).join = none := by simp
        rw [z]
        trivial
      · cases z
        rw [upd_ne ne, upd_same]
end
end Zed

/-! Zed 2: results, denotations, what a denotation wants of a reading, how denotations are composed. -/
namespace Zed
open PySem L2

abbrev ZX := Nat × List (Option Z)
inductive R (α : Type) where
  | ok (a : α) (A : ZH)
  | ex (x : ZX) (A : ZH)
  | no
def R.bd {α β : Type} (r : R α) (k : α → ZH → R β) : R β := match r with
  | .ok a A => k a A
  | .ex x A => .ex x A
  | .no => .no
@[simp] theorem R.bd_ok {α β : Type} (a : α) (A : ZH) (k : α → ZH → R β) : (R.ok a A).bd k = k a A := rfl
@[simp] theorem R.bd_ex {α β : Type} (x : ZX) (A : ZH) (k : α → ZH → R β) : (R.ex x A : R α).bd k = .ex x A := rfl
@[simp] theorem R.bd_no {α β : Type} (k : α → ZH → R β) : (R.no : R α).bd k = .no := rfl

/-- .. where nothing may be raised -/
def R.bdn {α β : Type} (r : R α) (k : α → ZH → R β) : R β := match r with
  | .ok a A => k a A
  | _ => .no
@[simp] theorem R.bdn_ok {α β : Type} (a : α) (A : ZH) (k : α → ZH → R β) : (R.ok a A).bdn k = k a A := rfl
@[simp] theorem R.bdn_ex {α β : Type} (x : ZX) (A : ZH) (k : α → ZH → R β) : (R.ex x A : R α).bdn k = .no := rfl
@[simp] theorem R.bdn_no {α β : Type} (k : α → ZH → R β) : (R.no : R α).bdn k = .no := rfl
/-- a slot: nothing known, a value, the exception that a suite holds -/
inductive Sl where
  | un
  | va (z : Z)
  | xc (c : Nat) (fs : List (Option Z))
abbrev Fr := List Sl
inductive RS where
  | nx (fr : Fr) (A : ZH)
  | rt (z : Z) (A : ZH)
  | bk (fr : Fr) (A : ZH)
  | ct (fr : Fr) (A : ZH)
  | ex (x : ZX) (fr : Fr) (A : ZH)
  | no
def RS.sq (r : RS) (k : Fr → ZH → RS) : RS := match r with
  | .nx fr A => k fr A
  | r => r
@[simp] theorem RS.sq_nx (fr : Fr) (A : ZH) (k : Fr → ZH → RS) : (RS.nx fr A).sq k = k fr A := rfl
@[simp] theorem RS.sq_rt (z : Z) (A : ZH) (k : Fr → ZH → RS) : (RS.rt z A).sq k = .rt z A := rfl
@[simp] theorem RS.sq_bk (fr : Fr) (A : ZH) (k : Fr → ZH → RS) : (RS.bk fr A).sq k = .bk fr A := rfl
@[simp] theorem RS.sq_ct (fr : Fr) (A : ZH) (k : Fr → ZH → RS) : (RS.ct fr A).sq k = .ct fr A := rfl
@[simp] theorem RS.sq_ex (x : ZX) (fr : Fr) (A : ZH) (k : Fr → ZH → RS) : (RS.ex x fr A).sq k = .ex x fr A := rfl
@[simp] theorem RS.sq_no (k : Fr → ZH → RS) : (RS.no).sq k = .no := rfl
/-- an expression's end within a statement -/
def R.st {α : Type} (r : R α) (fr : Fr) (k : α → ZH → RS) : RS := match r with
  | .ok a A => k a A
  | .ex x A => .ex x fr A
  | .no => .no
@[simp] theorem R.st_ok {α : Type} (a : α) (A : ZH) (fr : Fr) (k : α → ZH → RS) : (R.ok a A).st fr k = k a A := rfl
@[simp] theorem R.st_ex {α : Type} (x : ZX) (A : ZH) (fr : Fr) (k : α → ZH → RS) : (R.ex x A : R α).st fr k = .ex x fr A := rfl
@[simp] theorem R.st_no {α : Type} (fr : Fr) (k : α → ZH → RS) : (R.no : R α).st fr k = .no := rfl
abbrev DE := Fr → ZH → R Z
abbrev DT := Fr → ZH → R Bool
abbrev DA := Fr → ZH → R (List Z)
abbrev DS := Fr → ZH → RS
/-- a def's function -/
abbrev Fn := List Z → ZH → R Z

/-! ### relations of exceptions and frames -/
def RX (g : G) (ρ : List Addr) (H : Hp) (c : Nat) (fs : List (Option Z)) (cl : Value) (d : Option Addr) : Prop :=
  cl = .ref (g.cls c) ∧ ((∃ dd ks, d = some dd ∧ dd ∉ ρ ∧ H dd = some (.xd ks) ∧ RFs g ρ H c fs ks) ∨ (fs = [] ∧ d = none))
theorem RX.mono {g : G} {ρ ρ' : List Addr} {H H' : Hp} (e : Ext ρ H ρ' H') {c : Nat} {fs : List (Option Z)} {cl : Value} {d : Option Addr} (h : RX g ρ H c fs cl d) : RX g ρ' H' c fs cl d := by
  obtain ⟨h1, h2⟩ := h
  refine ⟨h1, ?_⟩
  rcases h2 with ⟨dd, ks, e1, nd, e2, r⟩ | h2
  · refine .inl ⟨dd, ks, e1, fun hm => ?_, e.keep dd _ (.inl nd) e2, r.mono e⟩
    obtain ⟨t, e3, n3⟩ := e.ext
    rw [e3] at hm
    rcases List.mem_append.mp hm with k | k
    · exact nd k
    · rw [n3 _ k] at e2
      cases e2
  · exact .inr h2

/-- the exception of the suite that runs: its address, class, dict -/
abbrev XI := Option (Addr × Value × Option Addr)
inductive RSl (g : G) (xi : XI) (ρ : List Addr) (H : Hp) : Sl → Option V → Prop
  | un (v : Option V) : RSl g xi ρ H .un v
  | va {z : Z} {v : V} (r : RZ g ρ H z v) : RSl g xi ρ H (.va z) (some v)
  | xc {c : Nat} {fs : List (Option Z)} {a : Addr} {cl : Value} {d : Option Addr} (h : xi = some (a, cl, d)) (r : RX g ρ H c fs cl d) : RSl g xi ρ H (.xc c fs) (some (.ref a))
theorem RSl.mono {g : G} {xi : XI} {ρ ρ' : List Addr} {H H' : Hp} (e : Ext ρ H ρ' H') {s : Sl} {v : Option V} (h : RSl g xi ρ H s v) : RSl g xi ρ' H' s v := by
  cases h with
  | un => exact .un _
  | va r => exact .va (r.mono e)
  | xc h r => exact .xc h (r.mono e)
structure RFr (g : G) (xi : XI) (ρ : List Addr) (H : Hp) (fr : Fr) (σ : St) : Prop where
  len : fr.length = σ.length
  at_ : ∀ (i : Nat) (s : Sl), fr[i]? = some s → ∃ v, σ[i]? = some v ∧ RSl g xi ρ H s v
section
variable {g : G} {xi : XI} {ρ ρ' : List Addr} {H H' : Hp} {fr : Fr} {σ : St}
theorem RFr.mono (e : Ext ρ H ρ' H') (h : RFr g xi ρ H fr σ) : RFr g xi ρ' H' fr σ :=
  ⟨h.len, fun i s hs => let ⟨v, h1, h2⟩ := h.at_ i s hs; ⟨v, h1, h2.mono e⟩⟩
theorem RFr.va (h : RFr g xi ρ H fr σ) {i : Nat} {z : Z} (e : fr[i]? = some (.va z)) : ∃ v, σ[i]? = some (some v) ∧ RZ g ρ H z v := by
  obtain ⟨v, h1, h2⟩ := h.at_ i _ e
  cases h2 with
  | va r => exact ⟨_, h1, r⟩
theorem RFr.set (h : RFr g xi ρ H fr σ) (i : Nat) {s : Sl} {v : Option V} (r : RSl g xi ρ H s v) : RFr g xi ρ H (fr.set i s) (σ.set i v) := by
  refine ⟨by rw [List.length_set, List.length_set]; exact h.len, fun j t ht => ?_⟩
  by_cases hj : j = i
  · subst hj
    have hl : j < fr.length := by
      have := (List.getElem?_eq_some_iff.mp ht).1
      rwa [List.length_set] at this
    rw [List.getElem?_set_self hl] at ht
    cases ht
    exact ⟨v, by rw [List.getElem?_set_self (by rw [← h.len]; exact hl)], r⟩
  · rw [List.getElem?_set_ne (Ne.symm hj)] at ht
    obtain ⟨w, h1, h2⟩ := h.at_ j t ht
    exact ⟨w, by rw [List.getElem?_set_ne (Ne.symm hj)]; exact h1, h2⟩
/-- slots that are not known any more -/
theorem RFr.forget (h : RFr g xi ρ H fr σ) (i : Nat) (v : Option V) : RFr g xi ρ H (fr.set i .un) (σ.set i v) := h.set i (.un v)
theorem RFr.toXi (h : RFr g none ρ H fr σ) (xi : XI) : RFr g xi ρ H fr σ := by
  refine ⟨h.len, fun i s hs => ?_⟩
  obtain ⟨v, h1, h2⟩ := h.at_ i s hs
  refine ⟨v, h1, ?_⟩
  cases h2 with
  | un => exact .un _
  | va r => exact .va r
  | xc e r => cases e
end

/-! ### what is wanted -/
section
variable (g : G) (W : WX) (σ : St) (ρ : List Addr) (H : Hp)
def OutR {α β : Type} (Rel : List Addr → Hp → α → β → Prop) (Q : β → Hp → Prop) : R α → Prop
  | .ok a A' => ∀ ρ' H' b, Ext ρ H ρ' H' → RH g ρ' A' H' → Rel ρ' H' a b → Q b H'
  | .ex x A' => ∀ ρ' H' cl d, Ext ρ H ρ' H' → RH g ρ' A' H' → RX g ρ' H' x.1 x.2 cl d → W cl d σ H'
  | .no => False
end
section
variable {g : G} {xi : XI} {W : WX} {σ : St} {ρ ρ1 : List Addr} {H H1 : Hp} {α β γ δ : Type} {Rel : List Addr → Hp → α → β → Prop} {Rel2 : List Addr → Hp → γ → δ → Prop} {Q : β → Hp → Prop} {Q2 : δ → Hp → Prop} {fr : Fr} {A : ZH}
theorem OutR.ext (e : Ext ρ H ρ1 H1) {r : R α} (h : OutR g W σ ρ H Rel Q r) : OutR g W σ ρ1 H1 Rel Q r := by
  cases r with
  | ok a A => exact fun ρ' H' b e' => h ρ' H' b (e.trans e')
  | ex x A => exact fun ρ' H' cl d e' => h ρ' H' cl d (e.trans e')
  | no => exact h
/-- a reading that a denotation has -/
def rd (g : G) (xi : XI) (W : WX) {α β : Type} (Rel : List Addr → Hp → α → β → Prop) (d : Fr → ZH → R α) : St → Hp → (β → Hp → Prop) → Prop := fun σ H Q =>
  ∃ ρ fr A, RFr g xi ρ H fr σ ∧ RH g ρ A H ∧ OutR g W σ ρ H Rel Q (d fr A)
/-- the first part of a denotation, and then -/
theorem bd_run {d : Fr → ZH → R α} {k : α → ZH → R γ} (hf : RFr g xi ρ H fr σ) (hr : RH g ρ A H) (h : OutR g W σ ρ H Rel2 Q2 ((d fr A).bd k))
    {K : β → Hp → Prop} (hk : ∀ a A1 ρ1 H1 b, Ext ρ H ρ1 H1 → RFr g xi ρ1 H1 fr σ → RH g ρ1 A1 H1 → Rel ρ1 H1 a b → OutR g W σ ρ1 H1 Rel2 Q2 (k a A1) → K b H1) : rd g xi W Rel d σ H K := by
  refine ⟨ρ, fr, A, hf, hr, ?_⟩
  cases e : d fr A with
  | ok a A1 =>
    intro ρ' H' b e' r' rel
    refine hk a A1 ρ' H' b e' (hf.mono e') r' rel ?_
    rw [e] at h
    exact OutR.ext e' h
  | ex x A1 =>
    rw [e] at h
    exact h
  | no =>
    rw [e] at h
    exact h
end
abbrev relZ (g : G) : List Addr → Hp → Z → V → Prop := fun ρ H => RZ g ρ H
abbrev relZs (g : G) : List Addr → Hp → List Z → List V → Prop := fun ρ H => RZs g ρ H
abbrev relB : List Addr → Hp → Bool → Bool → Prop := fun _ _ a b => a = b

/-! ### soundness of a denotation -/
def SE (X : Cx) (g : G) (xi : XI) (W : WX) (e : Expr) (d : DE) : Prop := PE X e (rd g xi W (relZ g) d)
def STs (X : Cx) (g : G) (xi : XI) (W : WX) (e : Expr) (d : DT) : Prop := PT X e (rd g xi W relB d)
/-- a test, whatever its whole -/
def SW (X : Cx) (g : G) (xi : XI) (W : WX) (e : Expr) (d : DT) : Prop := PW X e (rd g xi W relB d)
def SA (X : Cx) (g : G) (xi : XI) (W : WX) (es : List Expr) (d : DA) : Prop := PA X es (rd g xi W (relZs g) d)
theorem SW.st {X : Cx} {g : G} {xi : XI} {W : WX} {e : Expr} {d : DT} (h : SW X g xi W e d) : STs X g xi W e d := PW.pt h
theorem PE.imp {X : Cx} {e : Expr} {t u : TE} (h : PE X e t) (k : ∀ σ H Q, u σ H Q → t σ H Q) : PE X e u := ⟨fun pins s σ H Q I hu => h.run pins s σ H Q I (k σ H Q hu)⟩
theorem PT.imp {X : Cx} {e : Expr} {t u : TT} (h : PT X e t) (k : ∀ σ H Q, u σ H Q → t σ H Q) : PT X e u := ⟨fun pins s σ H Q I hu => h.run pins s σ H Q I (k σ H Q hu)⟩
theorem PW.imp {X : Cx} {e : Expr} {t u : TT} (h : PW X e t) (k : ∀ σ H Q, u σ H Q → t σ H Q) : PW X e u := ⟨fun wh pins s σ H Q I hu => h.run wh pins s σ H Q I (k σ H Q hu)⟩
theorem PA.imp {X : Cx} {es : List Expr} {t u : TA} (h : PA X es t) (k : ∀ σ H Q, u σ H Q → t σ H Q) : PA X es u := ⟨fun pos pins s σ H Q I hu => h.run pos pins s σ H Q I (k σ H Q hu)⟩
theorem PS.imp {X : Cx} {st : Stmt} {t u : TS} (h : PS X st t) (k : ∀ D σ H, u D σ H → t D σ H) : PS X st u := ⟨fun pins s σ H D I hu => h.run pins s σ H D I (k D σ H hu)⟩
theorem PSs.imp {X : Cx} {st : List Stmt} {t u : TS} (h : PSs X st t) (k : ∀ D σ H, u D σ H → t D σ H) : PSs X st u := ⟨fun pins s σ H D I hu => h.run pins s σ H D I (k D σ H hu)⟩

def OutS (g : G) (xi : XI) (W : WX) (ρ : List Addr) (H : Hp) (D : Ends) : RS → Prop
  | .nx fr' A' => ∀ ρ' H' σ', Ext ρ H ρ' H' → RFr g xi ρ' H' fr' σ' → RH g ρ' A' H' → D.nx σ' H'
  | .rt z A' => ∀ ρ' H' v, Ext ρ H ρ' H' → RH g ρ' A' H' → RZ g ρ' H' z v → D.rt v H'
  | .bk fr' A' => ∀ ρ' H' σ', Ext ρ H ρ' H' → RFr g xi ρ' H' fr' σ' → RH g ρ' A' H' → D.bk σ' H'
  | .ct fr' A' => ∀ ρ' H' σ', Ext ρ H ρ' H' → RFr g xi ρ' H' fr' σ' → RH g ρ' A' H' → D.ct σ' H'
  | .ex x fr' A' => ∀ ρ' H' σ' cl d, Ext ρ H ρ' H' → RFr g xi ρ' H' fr' σ' → RH g ρ' A' H' → RX g ρ' H' x.1 x.2 cl d → W cl d σ' H'
  | .no => False
theorem OutS.ext {g : G} {xi : XI} {W : WX} {ρ ρ1 : List Addr} {H H1 : Hp} {D : Ends} (e : Ext ρ H ρ1 H1) {r : RS} (h : OutS g xi W ρ H D r) : OutS g xi W ρ1 H1 D r := by
  cases r with
  | nx fr A => exact fun ρ' H' σ' e' => h ρ' H' σ' (e.trans e')
  | rt z A => exact fun ρ' H' v e' => h ρ' H' v (e.trans e')
  | bk fr A => exact fun ρ' H' σ' e' => h ρ' H' σ' (e.trans e')
  | ct fr A => exact fun ρ' H' σ' e' => h ρ' H' σ' (e.trans e')
  | ex x fr A => exact fun ρ' H' σ' cl d e' => h ρ' H' σ' cl d (e.trans e')
  | no => exact h
def rdS (g : G) (xi : XI) (W : WX) (d : DS) : TS := fun D σ H => ∃ ρ fr A, RFr g xi ρ H fr σ ∧ RH g ρ A H ∧ OutS g xi W ρ H D (d fr A)
def SSt (X : Cx) (g : G) (xi : XI) (W : WX) (st : Stmt) (d : DS) : Prop := PS X st (rdS g xi W d)
def SSs (X : Cx) (g : G) (xi : XI) (W : WX) (sts : List Stmt) (d : DS) : Prop := PSs X sts (rdS g xi W d)
/-- an expression at a statement's start -/
theorem st_run {g : G} {xi : XI} {W : WX} {σ : St} {ρ : List Addr} {H : Hp} {fr : Fr} {A : ZH} {α β : Type} {Rel : List Addr → Hp → α → β → Prop} {D : Ends} {d : Fr → ZH → R α} {k : α → ZH → RS} (hf : RFr g xi ρ H fr σ) (hr : RH g ρ A H) (h : OutS g xi W ρ H D ((d fr A).st fr k))
    {K : β → Hp → Prop} (hk : ∀ a A1 ρ1 H1 b, Ext ρ H ρ1 H1 → RFr g xi ρ1 H1 fr σ → RH g ρ1 A1 H1 → Rel ρ1 H1 a b → OutS g xi W ρ1 H1 D (k a A1) → K b H1) : rd g xi W Rel d σ H K := by
  refine ⟨ρ, fr, A, hf, hr, ?_⟩
  cases e : d fr A with
  | ok a A1 =>
    intro ρ' H' b e' r' rel
    refine hk a A1 ρ' H' b e' (hf.mono e') r' rel ?_
    rw [e] at h
    exact OutS.ext e' h
  | ex x A1 =>
    rw [e] at h
    intro ρ' H' cl dd e' r' rx
    exact h ρ' H' σ cl dd e' (hf.mono e') r' rx
  | no =>
    rw [e] at h
    exact h
/-- a statement at a statement's start -/
theorem sq_run {g : G} {xi : XI} {W : WX} {σ : St} {ρ : List Addr} {H : Hp} {fr : Fr} {A : ZH} {D : Ends} {d : DS} {k : Fr → ZH → RS} (hf : RFr g xi ρ H fr σ) (hr : RH g ρ A H) (h : OutS g xi W ρ H D ((d fr A).sq k))
    {N : St → Hp → Prop} (hk : ∀ fr1 A1 ρ1 H1 σ1, Ext ρ H ρ1 H1 → RFr g xi ρ1 H1 fr1 σ1 → RH g ρ1 A1 H1 → OutS g xi W ρ1 H1 D (k fr1 A1) → N σ1 H1) : rdS g xi W d { D with nx := N } σ H := by
  refine ⟨ρ, fr, A, hf, hr, ?_⟩
  cases e : d fr A with
  | nx fr1 A1 =>
    rw [e] at h
    intro ρ' H' σ' e' f' r'
    exact hk fr1 A1 ρ' H' σ' e' f' r' (OutS.ext e' h)
  | rt z A1 => rw [e] at h; exact h
  | bk z A1 => rw [e] at h; exact h
  | ct z A1 => rw [e] at h; exact h
  | ex x z A1 => rw [e] at h; exact h
  | no => rw [e] at h; exact h
end Zed

/-! Zed 3: expressions: names, constants, operators, comparisons, tests. -/
namespace Zed
open PySem L2

section
variable {X : Cx} {g : G} {xi : XI} {W : WX} {a b c : Expr} {da db dc : DE} {pos : Pos}

/-! ### names, constants -/
def dVar (i : Nat) : DE := fun fr A => match fr[i]? with
  | some (.va z) => .ok z A
  | _ => .no
theorem e_var (i : Nat) {x : Str} (hN : X.N[i]? = some x := by rfl) (hv : Vis X.env.scope x := by first | exact Or.inl rfl | exact Or.inr (Or.inl rfl) | exact Or.inr (Or.inr rfl)) (hd : (x == ("__debug__" : Str)) = false := by decide)
    (hcd : (x == ("__classdict__" : Str)) = false := by decide) : SE X g xi W (.Name x pos) (dVar i) := by
  refine PE.imp (pe_var hN hv hd hcd) fun σ H Q h => ?_
  obtain ⟨ρ, fr, A, hf, hr, ho⟩ := h
  unfold dVar at ho
  cases e : fr[i]? with
  | none => rw [e] at ho; exact ho.elim
  | some s =>
    rw [e] at ho
    cases s with
    | va z =>
      obtain ⟨v, h1, h2⟩ := hf.va e
      exact ⟨v, h1, ho ρ H v (.refl _ _) hr h2⟩
    | un => exact ho.elim
    | xc _ _ => exact ho.elim
def dC (z : Z) : DE := fun _ A => .ok z A
theorem e_const {e : Expr} {v : V} {z : Z} (h : PE X e (tC v)) (r : ∀ ρ H, RZ g ρ H z v) : SE X g xi W e (dC z) := by
  refine PE.imp h fun σ H Q h => ?_
  obtain ⟨ρ, fr, A, hf, hr, ho⟩ := h
  exact ho ρ H v (.refl _ _) hr (r ρ H)
theorem e_int {i : Int} {j : Nat} : SE X g xi W (.Constant (.int i) j pos) (dC (.int i)) := e_const pe_int fun _ _ => .int i
theorem e_bl {i : Bool} {j : Nat} : SE X g xi W (.Constant (.bool i) j pos) (dC (.bl i)) := e_const pe_bl fun _ _ => .bl i
theorem e_non {j : Nat} : SE X g xi W (.Constant .none j pos) (dC .non) := e_const pe_non fun _ _ => .non
theorem e_str {s : Str} {j : Nat} : SE X g xi W (.Constant (.str s) j pos) (dC (.str s)) := e_const pe_str fun _ _ => .str s
/-- a constant of the module's -/
def GlZ (X : Cx) (g : G) (x : Str) (z : Z) : Prop := ∃ u v, X.mg x = some u ∧ RelV v u ∧ ∀ ρ H, RZ g ρ H z v
theorem e_glob {x : Str} {z : Z} (hg : Gl X x) (h : GlZ X g x z) (hd : (x == ("__debug__" : Str)) = false := by decide) : SE X g xi W (.Name x pos) (dC z) := by
  obtain ⟨u, v, h1, h2, h3⟩ := h
  exact e_const (pe_glob hg h1 h2 hd) h3

/-! ### two places -/
def dBin (f : Z → Z → ZH → R Z) (da db : DE) : DE := fun fr A => (da fr A).bd fun x A1 => (db fr A1).bd fun y A2 => f x y A2
/-- an operation on values: what it wants of a reading -/
def OpZ (g : G) (r : R2) (f : Z → Z → ZH → R Z) : Prop :=
  ∀ (W : WX) (σ : St) (ρ : List Addr) (A : ZH) (H : Hp) (x y : Z) (v u : V) (Q : VK), RH g ρ A H → RZ g ρ H x v → RZ g ρ H y u → OutR g W σ ρ H (relZ g) Q (f x y A) → r v u H Q
theorem bin_run {r : R2} {f : Z → Z → ZH → R Z} (hz : OpZ g r f) {σ : St} {H : Hp} {Q : VK} (h : rd g xi W (relZ g) (dBin f da db) σ H Q) : tOp r (rd g xi W (relZ g) da) (rd g xi W (relZ g) db) σ H Q := by
  obtain ⟨ρ, fr, A, hf, hr, ho⟩ := h
  refine bd_run hf hr ho fun x A1 ρ1 H1 v e1 hf1 hr1 rx ho1 => ?_
  refine bd_run hf1 hr1 ho1 fun y A2 ρ2 H2 u e2 hf2 hr2 ry ho2 => ?_
  exact hz W σ ρ2 A2 H2 x y v u Q hr2 (rx.mono e2) ry ho2
theorem e_op {op : Operator} {r : R2} {f : Z → Z → ZH → R Z} (ho : OpR X (binaryOp op) r) (hz : OpZ g r f) (ha : SE X g xi W a da) (hb : SE X g xi W b db) : SE X g xi W (.BinOp a op b pos) (dBin f da db) :=
  PE.imp (pe_op ho ha hb) fun _ _ _ h => bin_run hz h
theorem e_cmp {op : CmpOp} {r : R2} {f : Z → Z → ZH → R Z} (ho : OpR X (compareOp op) r) (hz : OpZ g r f) (ha : SE X g xi W a da) (hb : SE X g xi W b db) (hm : behindInMarks op b = false) : SE X g xi W (.Compare a [op] [b] pos) (dBin f da db) :=
  PE.imp (pe_cmpR ho ha hb hm) fun _ _ _ h => bin_run hz h
theorem e_ix {r : R2} {f : Z → Z → ZH → R Z} (ho : IxR X r) (hz : OpZ g r f) (ha : SE X g xi W a da) (hb : SE X g xi W b db) (hs : PlainIx b) : SE X g xi W (.Subscript a b pos) (dBin f da db) :=
  PE.imp (pe_ix ho ha hb hs) fun _ _ _ h => bin_run hz h
/-- one place -/
def dUn (f : Z → ZH → R Z) (da : DE) : DE := fun fr A => (da fr A).bd fun x A1 => f x A1
def UnZ (g : G) (r : V → Hp → VK → Prop) (f : Z → ZH → R Z) : Prop :=
  ∀ (W : WX) (σ : St) (ρ : List Addr) (A : ZH) (H : Hp) (x : Z) (v : V) (Q : VK), RH g ρ A H → RZ g ρ H x v → OutR g W σ ρ H (relZ g) Q (f x A) → r v H Q
theorem e_un {op : UnaryOp} {r : V → Hp → VK → Prop} {f : Z → ZH → R Z} (ho : UnR X (unaryOp op) r) (hz : UnZ g r f) (ha : SE X g xi W a da) : SE X g xi W (.UnaryOp op a pos) (dUn f da) := by
  refine PE.imp (pe_un ho ha) fun σ H Q h => ?_
  obtain ⟨ρ, fr, A, hf, hr, h⟩ := h
  refine bd_run hf hr h fun x A1 ρ1 H1 v e1 hf1 hr1 rx ho1 => ?_
  exact hz W σ ρ1 A1 H1 x v Q hr1 rx ho1

/-! ### tests -/
def R.tb (r : R Z) : R Bool := r.bd fun z A => match z with
  | .bl b => .ok b A
  | _ => .no
@[simp] theorem R.tb_bl (b : Bool) (A : ZH) : (R.ok (.bl b) A).tb = .ok b A := rfl
@[simp] theorem R.tb_no : (R.no : R Z).tb = .no := rfl
@[simp] theorem R.tb_ex (x : ZX) (A : ZH) : (R.ex x A : R Z).tb = .ex x A := rfl
def dTst (d : DE) : DT := fun fr A => (d fr A).tb
theorem OutR.tb {σ : St} {ρ : List Addr} {H : Hp} {Q : Bool → Hp → Prop} {r : R Z} (h : OutR g W σ ρ H relB Q r.tb) : OutR g W σ ρ H (relZ g) (fun x H' => ∃ k, x = .bl k ∧ Q k H') r := by
  cases r with
  | ok z A =>
    cases z with
    | bl b =>
      intro ρ' H' v e r' rz
      cases rz
      exact ⟨b, rfl, h ρ' H' b e r' rfl⟩
    | _ => exact h.elim
  | ex x A => exact h
  | no => exact h
theorem tb_run {d : DE} {σ : St} {H : Hp} {Q : Bool → Hp → Prop} (h : rd g xi W relB (dTst d) σ H Q) : rd g xi W (relZ g) d σ H fun x H' => ∃ k, x = .bl k ∧ Q k H' := by
  obtain ⟨ρ, fr, A, hf, hr, ho⟩ := h
  exact ⟨ρ, fr, A, hf, hr, ho.tb⟩
theorem op_tb {r : R2} {f : Z → Z → ZH → R Z} (hz : OpZ g r f) {σ : St} {H : Hp} {Q : Bool → Hp → Prop} (h : rd g xi W relB (dTst (dBin f da db)) σ H Q) : tTest (tOp r (rd g xi W (relZ g) da) (rd g xi W (relZ g) db)) σ H Q :=
  bin_run hz (tb_run h)
theorem t_cmp {op : CmpOp} {r : R2} {f : Z → Z → ZH → R Z} (ho : OpR X (compareOp op) r) (hz : OpZ g r f) (ha : SE X g xi W a da) (hb : SE X g xi W b db) (hm : behindInMarks op b = false) : STs X g xi W (.Compare a [op] [b] pos) (dTst (dBin f da db)) :=
  PT.imp (pt_cmpR ho ha hb hm) fun _ _ _ h => op_tb hz h
/-- a value's truth -/
def truZ (z : Z) (A : ZH) : R Bool := match z with
  | .non => .ok false A
  | .bl b => .ok b A
  | .int i => .ok (i != 0) A
  | .str s => if s.length ≤ sizeLine then .ok ((s.length : Int) != 0) A else .no
  | .tup xs => .ok (!xs.isEmpty) A
  | .lit xs => .ok (!xs.isEmpty) A
  | .ref n => match A.get n with
    | some (.lst xs) => .ok (!xs.isEmpty) A
    | some (.dct kvs) => .ok (!kvs.isEmpty) A
    | _ => .no
  | .cod _ => .no
def dTru (d : DE) : DT := fun fr A => (d fr A).bd truZ
theorem RZs.empty {ρ : List Addr} {H : Hp} {zs : List Z} {vs : List V} (h : RZs g ρ H zs vs) : zs.isEmpty = vs.isEmpty := by cases h <;> rfl
theorem RKs.empty {ρ : List Addr} {H : Hp} {zs : List (Z × Z)} {vs : List (Key × V)} (h : RKs g ρ H zs vs) : zs.isEmpty = vs.isEmpty := by cases h <;> rfl
theorem tru_out {σ : St} {ρ : List Addr} {A : ZH} {H : Hp} {z : Z} {v : V} {Q : Bool → Hp → Prop} (R : RH g ρ A H) (r : RZ g ρ H z v) (h : OutR g W σ ρ H relB Q (truZ z A)) : ∃ k, TruV g.K v H k ∧ Q k H := by
  cases r with
  | non => exact ⟨false, rfl, h ρ H _ (.refl _ _) R rfl⟩
  | bl b => exact ⟨b, rfl, h ρ H _ (.refl _ _) R rfl⟩
  | int i => exact ⟨_, rfl, h ρ H _ (.refl _ _) R rfl⟩
  | str s =>
    have h : OutR g W σ ρ H relB Q (if s.length ≤ sizeLine then .ok ((s.length : Int) != 0) A else .no) := h
    by_cases hs : s.length ≤ sizeLine
    · rw [if_pos hs] at h
      exact ⟨_, ⟨hs, rfl⟩, h ρ H _ (.refl _ _) R rfl⟩
    · rw [if_neg hs] at h
      exact h.elim
  | tup r t => exact ⟨_, .inr (.inl ⟨_, t.sq, rfl⟩), by rw [← r.empty]; exact h ρ H _ (.refl _ _) R rfl⟩
  | lit r t => exact ⟨_, .inl ⟨_, t.sq, rfl⟩, by rw [← r.empty]; exact h ρ H _ (.refl _ _) R rfl⟩
  | @ref n a ha =>
    unfold truZ at h
    cases e : A.get n with
    | none => simp only [e] at h; exact h.elim
    | some o =>
      cases o with
      | lst xs =>
        simp only [e] at h
        obtain ⟨vs, h1, h2⟩ := R.lst ha e
        exact ⟨_, .inl ⟨vs, SqL.of h1, rfl⟩, by rw [← h2.empty]; exact h ρ H _ (.refl _ _) R rfl⟩
      | dct kvs =>
        simp only [e] at h
        obtain ⟨ks, h1, h2⟩ := R.dct ha e
        exact ⟨_, .inr (.inr ⟨ks, h1, rfl⟩), by rw [← h2.empty]; exact h ρ H _ (.refl _ _) R rfl⟩
      | ins c fs => simp only [e] at h; exact h.elim
  | cod h' => exact h.elim
theorem t_tru (hK : X.K = g.K) (ha : SE X g xi W a da) (he : ∀ whole, isTrue a X.env whole = (do let v ← whole; standAt a.pos; holding [v] (truthy v)) := by intro _; rfl) : STs X g xi W a (dTru da) := by
  refine PT.imp (pt_truth ha he) fun σ H Q h => ?_
  obtain ⟨ρ, fr, A, hf, hr, h⟩ := h
  refine bd_run hf hr h fun x A1 ρ1 H1 v e1 hf1 hr1 rx ho1 => ?_
  rw [hK]
  exact tru_out hr1 rx ho1
def dNot (d : DT) : DT := fun fr A => (d fr A).bd fun b A1 => .ok (!b) A1
theorem t_not {d : DT} (h : STs X g xi W a d) : STs X g xi W (.UnaryOp .Not a pos) (dNot d) := by
  refine PT.imp (pt_not h) fun σ H Q h => ?_
  obtain ⟨ρ, fr, A, hf, hr, h⟩ := h
  refine bd_run hf hr h fun x A1 ρ1 H1 v e1 hf1 hr1 rx ho1 => ?_
  subst rx
  exact ho1 ρ1 H1 _ (.refl _ _) hr1 rfl
def dAnd (t u : DT) : DT := fun fr A => (t fr A).bd fun b A1 => if b = true then u fr A1 else .ok false A1
def dOr (t u : DT) : DT := fun fr A => (t fr A).bd fun b A1 => if b = true then .ok true A1 else u fr A1
variable {t u : DT} {rest : List Expr}
theorem w_and1 (ha : STs X g xi W a t) : SW X g xi W (.BoolOp .And [a] pos) t := pw_and1 ha
theorem w_or1 (ha : STs X g xi W a t) : SW X g xi W (.BoolOp .Or [a] pos) t := pw_or1 ha
theorem w_and (ha : STs X g xi W a t) (hb : SW X g xi W (.BoolOp .And (b :: rest) pos) u) : SW X g xi W (.BoolOp .And (a :: b :: rest) pos) (dAnd t u) := by
  refine PW.imp (pw_and ha hb) fun σ H Q h => ?_
  obtain ⟨ρ, fr, A, hf, hr, h⟩ := h
  refine bd_run hf hr h fun x A1 ρ1 H1 v e1 hf1 hr1 rx ho1 => ?_
  subst rx
  cases x with
  | true => exact ⟨ρ1, fr, A1, hf1, hr1, ho1⟩
  | false => exact ho1 ρ1 H1 _ (.refl _ _) hr1 rfl
theorem w_or (ha : STs X g xi W a t) (hb : SW X g xi W (.BoolOp .Or (b :: rest) pos) u) : SW X g xi W (.BoolOp .Or (a :: b :: rest) pos) (dOr t u) := by
  refine PW.imp (pw_or ha hb) fun σ H Q h => ?_
  obtain ⟨ρ, fr, A, hf, hr, h⟩ := h
  refine bd_run hf hr h fun x A1 ρ1 H1 v e1 hf1 hr1 rx ho1 => ?_
  subst rx
  cases x with
  | false => exact ⟨ρ1, fr, A1, hf1, hr1, ho1⟩
  | true => exact ho1 ρ1 H1 _ (.refl _ _) hr1 rfl
/-- and, or, not as values, by truth -/
def dAndV (da db : DE) : DE := fun fr A => (da fr A).bd fun x A1 => (truZ x A1).bd fun b A2 => if b = true then db fr A2 else .ok x A2
def dOrV (da db : DE) : DE := fun fr A => (da fr A).bd fun x A1 => (truZ x A1).bd fun b A2 => if b = true then .ok x A2 else db fr A2
def dNotV (da : DE) : DE := fun fr A => (da fr A).bd fun x A1 => (truZ x A1).bd fun b A2 => .ok (.bl (!b)) A2
theorem truZ_heap {z : Z} {A A' : ZH} {b : Bool} (h : truZ z A = .ok b A') : A' = A := by
  cases z with
  | str s =>
    have h : (if s.length ≤ sizeLine then (.ok ((s.length : Int) != 0) A : R Bool) else .no) = .ok b A' := h
    split at h
    · cases h; rfl
    · cases h
  | ref n =>
    unfold truZ at h
    dsimp only at h
    split at h <;> cases h <;> rfl
  | cod _ => cases h
  | _ => cases h; rfl
theorem truZ_ex {z : Z} {A A' : ZH} {x : ZX} : truZ z A ≠ .ex x A' := fun h => by
  cases z with
  | str s =>
    have h : (if s.length ≤ sizeLine then (.ok ((s.length : Int) != 0) A : R Bool) else .no) = .ex x A' := h
    split at h <;> cases h
  | ref n =>
    unfold truZ at h
    dsimp only at h
    split at h <;> cases h
  | _ => cases h
/-- a value's truth within a value -/
theorem tru_bd {γ δ : Type} {Rel2 : List Addr → Hp → γ → δ → Prop} {σ : St} {ρ : List Addr} {A : ZH} {H : Hp} {z : Z} {v : V} {Q : δ → Hp → Prop} {k : Bool → ZH → R γ} (Rh : RH g ρ A H) (r : RZ g ρ H z v)
    (h : OutR g W σ ρ H Rel2 Q ((truZ z A).bd k)) : ∃ b, TruV g.K v H b ∧ OutR g W σ ρ H Rel2 Q (k b A) := by
  cases e : truZ z A with
  | ok b A' =>
    have ea := truZ_heap e
    subst ea
    rw [e] at h
    have q : OutR g W σ ρ H relB (fun b' _ => b' = b) (truZ z A') := by
      rw [e]
      intro _ _ b' _ _ q
      exact q.symm
    obtain ⟨k', h1, h2⟩ := tru_out Rh r q
    subst h2
    exact ⟨k', h1, h⟩
  | ex x A' => exact absurd e truZ_ex
  | no => rw [e] at h; exact h.elim
theorem v_one {op : BoolOp} {d : DE} (h : SE X g xi W a d) : SE X g xi W (.BoolOp op [a] pos) d := pe_one h
theorem v_and (hK : X.K = g.K) (ha : SE X g xi W a da) (hb : SE X g xi W (.BoolOp .And (b :: rest) pos) db) : SE X g xi W (.BoolOp .And (a :: b :: rest) pos) (dAndV da db) := by
  refine PE.imp (pe_andT ha hb) fun σ H Q h => ?_
  obtain ⟨ρ, fr, A, hf, hr, h⟩ := h
  refine bd_run hf hr h fun x A1 ρ1 H1 v e1 hf1 hr1 rx ho1 => ?_
  rw [hK]
  obtain ⟨k, h1, h2⟩ := tru_bd hr1 rx ho1
  refine ⟨k, h1, ?_⟩
  cases k with
  | true => exact ⟨ρ1, fr, A1, hf1, hr1, h2⟩
  | false => exact h2 ρ1 H1 v (.refl _ _) hr1 rx
theorem v_or (hK : X.K = g.K) (ha : SE X g xi W a da) (hb : SE X g xi W (.BoolOp .Or (b :: rest) pos) db) : SE X g xi W (.BoolOp .Or (a :: b :: rest) pos) (dOrV da db) := by
  refine PE.imp (pe_orT ha hb) fun σ H Q h => ?_
  obtain ⟨ρ, fr, A, hf, hr, h⟩ := h
  refine bd_run hf hr h fun x A1 ρ1 H1 v e1 hf1 hr1 rx ho1 => ?_
  rw [hK]
  obtain ⟨k, h1, h2⟩ := tru_bd hr1 rx ho1
  refine ⟨k, h1, ?_⟩
  cases k with
  | false => exact ⟨ρ1, fr, A1, hf1, hr1, h2⟩
  | true => exact h2 ρ1 H1 v (.refl _ _) hr1 rx
theorem v_not (hK : X.K = g.K) (ha : SE X g xi W a da) : SE X g xi W (.UnaryOp .Not a pos) (dNotV da) := by
  refine PE.imp (pe_notT ha) fun σ H Q h => ?_
  obtain ⟨ρ, fr, A, hf, hr, h⟩ := h
  refine bd_run hf hr h fun x A1 ρ1 H1 v e1 hf1 hr1 rx ho1 => ?_
  rw [hK]
  obtain ⟨k, h1, h2⟩ := tru_bd hr1 rx ho1
  exact ⟨k, h1, h2 ρ1 H1 _ (.refl _ _) hr1 (.bl _)⟩
def dIf (t : DT) (da db : DE) : DE := fun fr A => (t fr A).bd fun b A1 => if b = true then da fr A1 else db fr A1
theorem e_if (hc : STs X g xi W c t) (ha : SE X g xi W a da) (hb : SE X g xi W b db) : SE X g xi W (.IfExp c a b pos) (dIf t da db) := by
  refine PE.imp (pe_ifExp hc ha hb) fun σ H Q h => ?_
  obtain ⟨ρ, fr, A, hf, hr, h⟩ := h
  refine bd_run hf hr h fun x A1 ρ1 H1 v e1 hf1 hr1 rx ho1 => ?_
  subst rx
  cases x with
  | true => exact ⟨ρ1, fr, A1, hf1, hr1, ho1⟩
  | false => exact ⟨ρ1, fr, A1, hf1, hr1, ho1⟩

/-! ### argument lists, displays -/
def dNil : DA := fun _ A => .ok [] A
def dCons (da : DE) (dr : DA) : DA := fun fr A => (da fr A).bd fun x A1 => (dr fr A1).bd fun xs A2 => .ok (x :: xs) A2
theorem a_nil : SA X g xi W [] dNil := by
  refine PA.imp pa_nil fun σ H Q h => ?_
  obtain ⟨ρ, fr, A, hf, hr, h⟩ := h
  exact h ρ H _ (.refl _ _) hr .nil
theorem a_cons {es : List Expr} {dr : DA} (ha : SE X g xi W a da) (hr : SA X g xi W es dr) (hs : starEach (a :: es) X.env = (false, eval a X.env) :: starEach es X.env := by rfl) : SA X g xi W (a :: es) (dCons da dr) := by
  refine PA.imp (pa_cons ha hr hs) fun σ H Q h => ?_
  obtain ⟨ρ, fr, A, hf, hr, h⟩ := h
  refine bd_run hf hr h fun x A1 ρ1 H1 v e1 hf1 hr1 rx ho1 => ?_
  refine bd_run hf1 hr1 ho1 fun y A2 ρ2 H2 u e2 hf2 hr2 ry ho2 => ?_
  exact ho2 ρ2 H2 _ (.refl _ _) hr2 (.cons (rx.mono e2) ry)
def dTup (d : DA) : DE := fun fr A => (d fr A).bd fun xs A1 => if xs.length ≤ sizeLine then .ok (.tup xs) A1 else .no
def dLst (d : DA) : DE := fun fr A => (d fr A).bd fun xs A1 => if xs.length ≤ sizeLine then .ok (.ref A1.n) (A1.push (.lst xs)) else .no
theorem get_end {ρ : List Addr} {A : ZH} {H : Hp} (R : RH g ρ A H) (p : Addr) : (ρ ++ [p])[A.n]? = some p := by
  rw [← R.len, List.getElem?_append_right (Nat.le_refl _)]
  simp
theorem upd_tup {ρ : List Addr} {A : ZH} {H : Hp} {p : Addr} {o : HO} (R : RH g ρ A H) (hp : H p = none) : RH g ρ A (L2.upd H p o) ∧ Ext ρ H ρ (L2.upd H p o) :=
  R.keep fun a u h => by rw [upd_ne (ne_of_none h hp)]; exact h
theorem new_tup {σ : St} {ρ : List Addr} {A : ZH} {H : Hp} {Q : VK} {zs : List Z} {vs : List V} (R : RH g ρ A H) (r : RZs g ρ H zs vs) (h : OutR g W σ ρ H (relZ g) Q (.ok (.tup zs) A)) (p : Addr) (hp : H p = none) : Q (.ref p) (L2.upd H p (.tup vs)) := by
  obtain ⟨R', e⟩ := upd_tup (o := .tup vs) R hp
  exact h ρ _ _ e R' (.tup (r.mono e) (.inl upd_same))
theorem new_lst {σ : St} {ρ : List Addr} {A : ZH} {H : Hp} {Q : VK} {zs : List Z} {vs : List V} (R : RH g ρ A H) (r : RZs g ρ H zs vs) (h : OutR g W σ ρ H (relZ g) Q (.ok (.ref A.n) (A.push (.lst zs)))) (p : Addr) (hp : H p = none) : Q (.ref p) (L2.upd H p (.lst vs)) := by
  obtain ⟨R', e⟩ := R.new hp (.lst r) (fun _ _ _ z => by cases z) (fun _ z => by cases z)
  exact h _ _ _ e R' (.ref (get_end R p))
theorem e_tup {es : List Expr} {d : DA} {x1} (h : SA X g xi W es d) : SE X g xi W (.Tuple es x1 pos) (dTup d) := by
  refine PE.imp (pe_tup h) fun σ H Q h => ?_
  obtain ⟨ρ, fr, A, hf, hr, h⟩ := h
  refine bd_run hf hr h fun xs A1 ρ1 H1 vs e1 hf1 hr1 rx ho1 => ?_
  by_cases hl : xs.length ≤ sizeLine
  · rw [if_pos hl] at ho1
    exact ⟨by rw [← rx.length]; exact hl, fun p hp => new_tup hr1 rx ho1 p hp⟩
  · rw [if_neg hl] at ho1
    exact ho1.elim
theorem e_lst {es : List Expr} {d : DA} (h : SA X g xi W es d) : SE X g xi W (.List es pos) (dLst d) := by
  refine PE.imp (pe_lst h) fun σ H Q h => ?_
  obtain ⟨ρ, fr, A, hf, hr, h⟩ := h
  refine bd_run hf hr h fun xs A1 ρ1 H1 vs e1 hf1 hr1 rx ho1 => ?_
  by_cases hl : xs.length ≤ sizeLine
  · rw [if_pos hl] at ho1
    exact ⟨by rw [← rx.length]; exact hl, fun p hp => new_lst hr1 rx ho1 p hp⟩
  · rw [if_neg hl] at ho1
    exact ho1.elim
def dDict0 : DE := fun _ A => .ok (.ref A.n) (A.push (.dct []))
theorem e_dict0 : SE X g xi W (.Dict [] [] pos) dDict0 := by
  refine PE.imp pe_dnewK fun σ H Q h => ?_
  obtain ⟨ρ, fr, A, hf, hr, h⟩ := h
  intro p hp
  obtain ⟨R', e⟩ := hr.new (o := .dct []) (q := .dK []) hp (.dct .nil) (fun _ _ _ z => by cases z) (fun _ z => by cases z)
  exact h _ _ _ e R' (.ref (get_end hr p))
end
end Zed

/-! Zed 4: calls of defs, of classes, of methods; fields. -/
namespace Zed
open PySem PyProof.Rows L2

/-! ### room -/
structure RoomZ (k : Nat) (A : Around) : Prop where
  hd : A.handled = none
  dp : A.depth + k + 30 < recursionLimit
  un : A.units + 4 * k + 400 < cLine
theorem RoomZ.mono {j k : Nat} {A : Around} (r : RoomZ k A) (h : j ≤ k) : RoomZ j A := ⟨r.hd, by have := r.dp; omega, by have := r.un; omega⟩
theorem RoomZ.in {k : Nat} {A : Around} (r : RoomZ (k + 1) A) (env : Env) : RoomZ k (A.deeper env) := by
  refine ⟨r.hd, ?_, ?_⟩
  · have z := r.dp
    show A.depth + 1 + k + 30 < _
    omega
  · have z := r.un
    show A.units + 3 + 4 * k + 400 < _
    omega
theorem RoomZ.mk' {k : Nat} {A : Around} (r : RoomZ (k + 1) A) (C : Addr) (us : List Value) (kw : List (Str × Value)) : RoomZ k (A.under (.builtin "type.__call__" ⟨.ref C :: us, kw⟩)) := by
  refine ⟨r.hd, ?_, ?_⟩
  · have z := r.dp
    rw [make_depth]
    omega
  · have z := r.un
    rw [make_units]
    omega
theorem RoomZ.room {k : Nat} {A : Around} (r : RoomZ k A) : Room 5 A := ⟨r.hd, by have := r.dp; omega, by have := r.un; omega⟩
theorem RoomZ.un1 {k : Nat} {A : Around} (r : RoomZ k A) : A.units + 1 < cLine := by have := r.un; omega
theorem RoomZ.un64 {k : Nat} {A : Around} (r : RoomZ k A) : A.units + 64 < cLine := by have := r.un; omega

/-- a def keeps a promise, in a room of mine -/
structure FnZ (P : Program) (w : World) (K : PySem.W.Frag) (mg : Str → Option Value) (base : Heap) (k : Nat) (f : Addr) (fd : FuncData) (ps : List Str) (sp : Sp) : Prop where
  len : ∀ vs H Q E, sp vs H Q E → vs.length = ps.length
  run : ∀ (A : Around) (outer : List Env) (s : Shared) (H : Hp) (args : Args) (us : List Value) (vs : List V) (Q : VK) (E : XK), RoomZ k A → Env0 P w K mg base A outer s H → BindsTo s fd args (ps.zip us) →
    Vals vs us → sp vs H Q E → codeAny (model P w) A (.call (.ref f) args) (CR (L2.CX P w) outer P w H s Q E) s
theorem FnZ.mono {P : Program} {w : World} {K : PySem.W.Frag} {mg : Str → Option Value} {base : Heap} {j k : Nat} {f : Addr} {fd : FuncData} {ps : List Str} {sp : Sp} (F : FnZ P w K mg base j f fd ps sp) (h : j ≤ k) : FnZ P w K mg base k f fd ps sp :=
  ⟨F.len, fun A outer s H args us vs Q E r => F.run A outer s H args us vs Q E (r.mono h)⟩

section
variable {X : Cx} {W : WX} {k : Nat} {f C : Addr} {fd : FuncData} {ps : List Str} {sp : Sp} {x m : Str} {e o : Expr} {es : List Expr} {ta : TE} {t : TA} {p pos apos : Pos} {ds : List Value} {dvs : List V}
/-- the callee runs -/
theorem fnz_run {pins : List (Addr × Obj)} {σ : St} {H : Hp} {s : Shared} {Q : VK} {us : List Value} {vs : List V} (F : FnZ X.prog X.w X.K X.mg X.base k f fd ps sp) (room : RoomZ k X.A) (bi : Binds X.K fd ps ds) (dd : Vals dvs ds) (tk : Takes X W)
    (J : Inv X pins σ H s) (rr : Vals vs us) (q : sp (vs ++ dvs) H Q (WE W σ)) : wpAny (model X.prog X.w) X.A (call (.ref f) us) (EP X pins σ Q) X.xe s := by
  have both := rr.append dd
  have ll : (us ++ ds).length = ps.length := both.length.symm.trans (F.len _ _ _ _ q)
  have body := F.run X.A X.stack s H ⟨us, []⟩ (us ++ ds) (vs ++ dvs) Q (WE W σ) room J.env0 (bi s us J.kIn ll) both q
  refine wpAny_call (codeAny_mono body fun out s' ho => ?_)
  match out, ho with
  | .error ev, ho => exact passAt tk σ pins H s ev s' J ho
  | .ok (.ret u), ho => exact J.after ho
def tCallZ (sp : Sp) (dvs : List V) (W : WX) (t : TA) : TE := fun σ H Q => t σ H fun vs H1 => sp (vs ++ dvs) H1 Q (WE W σ)
theorem fnz_call (F : FnZ X.prog X.w X.K X.mg X.base k f fd ps sp) (room : RoomZ k X.A) (gl : Gl X x) (mg : X.mg x = some (.ref f)) (kp : PySem.W.keepIn X.K (.ref f) = true) (bi : Binds X.K fd ps ds) (dd : Vals dvs ds) (tk : Takes X W) (args : PA X (e :: es) t)
    (hdb : (x == ("__debug__" : Str)) = false := by decide) (hse : starEach (e :: es) X.env = (false, eval e X.env) :: starEach es X.env := by rfl) (hpl : (backTo pos (starEach es X.env)).any (·.1) = false := by rfl) : PE X (.Call (.Name x p) (e :: es) [] pos) (tCallZ sp dvs W t) := by
  constructor
  intro pins s σ H Q J q
  apply wpAny_Call_Name_kw
  apply ld_glob J gl mg _ hdb
  refine PySem.W.callWith_K (h₀ := X.base) J.ok.mod.kin kp (thn (args.run pos pins s σ H _ J q) ?_) hse hpl
  rintro us s1 ⟨vs, H1, J1, r1, q1⟩
  exact ⟨J1.kIn, fnz_run F room bi dd tk J1 r1 q1⟩
theorem fnz_call0 (F : FnZ X.prog X.w X.K X.mg X.base k f fd ps sp) (room : RoomZ k X.A) (gl : Gl X x) (mg : X.mg x = some (.ref f)) (kp : PySem.W.keepIn X.K (.ref f) = true) (bi : Binds X.K fd ps ds) (dd : Vals dvs ds) (tk : Takes X W)
    (hdb : (x == ("__debug__" : Str)) = false := by decide) : PE X (.Call (.Name x p) [] [] pos) (tCallZ sp dvs W tNil) := by
  constructor
  intro pins s σ H Q J q
  apply wpAny_Call_Name_kw
  apply ld_glob J gl mg _ hdb
  exact PySem.W.callWith_K0 J.kIn kp (fnz_run (us := []) (vs := []) F room bi dd tk J .nil q)
def tMethZ (C : Addr) (m : Str) (sp : Sp) (dvs : List V) (W : WX) (ta : TE) (t : TA) : TE := fun σ H Q => ta σ H fun v H1 => ∃ a dx fs, v = .ref a ∧ H1 a = some (.ins C dx fs) ∧ fs.lookup m = none ∧
  t σ H1 fun vs H2 => sp (v :: (vs ++ dvs)) H2 Q (WE W σ)
theorem fnz_meth {pl : Sem Bool} (he : PE X o ta) (cc : Cls X.K C) (mm : Meth X.K C m f) (F : FnZ X.prog X.w X.K X.mg X.base k f fd ps sp) (room : RoomZ k X.A) (bi : Binds X.K fd ps ds) (dd : Vals dvs ds) (tk : Takes X W) (args : PA X (e :: es) t)
    (hse : starEach (e :: es) X.env = (false, eval e X.env) :: starEach es X.env := by rfl) (hpl : (backTo pos (starEach es X.env)).any (·.1) = false := by rfl)
    (hev : eval (.Call (.Attribute o m apos) (e :: es) [] pos) X.env = (do
      let recv ← eval o X.env
      standAt apos.atName
      let (fn, fst) ← holding [recv] (getMethod recv m pl)
      callWith pos fn fst (backTo pos (starEach (e :: es) X.env)) (backToKw pos (keywordEach [] X.env))) := by rfl) : PE X (.Call (.Attribute o m apos) (e :: es) [] pos) (tMethZ C m sp dvs W ta t) := by
  constructor
  intro pins s σ H Q J q
  refine PySem.W.methodCall_KW (pl := pl) (thn (he.run pins s σ H _ J q) ?_) hev
  rintro u s1 ⟨v, H1, J1, rv, a, dx, fs, ev, ea, lk, q1⟩
  subst ev
  have eu : u = Value.ref a := rv
  subst eu
  refine getmeth_ok J1 ea cc mm lk (PySem.W.callWith_K (first := [.ref a]) (h₀ := X.base) J.ok.mod.kin mm.kp (thn (args.run pos pins s1 σ H1 _ J1 q1) ?_) hse hpl)
  rintro us s2 ⟨vs, H2, J2, r2, q2⟩
  exact ⟨J2.kIn, fnz_run (us := .ref a :: us) (vs := .ref a :: vs) F room bi dd tk J2 (.cons rfl r2) q2⟩
theorem fnz_meth0 {pl : Sem Bool} (he : PE X o ta) (cc : Cls X.K C) (mm : Meth X.K C m f) (F : FnZ X.prog X.w X.K X.mg X.base k f fd ps sp) (room : RoomZ k X.A) (bi : Binds X.K fd ps ds) (dd : Vals dvs ds) (tk : Takes X W)
    (hev : eval (.Call (.Attribute o m apos) [] [] pos) X.env = (do
      let recv ← eval o X.env
      standAt apos.atName
      let (fn, fst) ← holding [recv] (getMethod recv m pl)
      callWith pos fn fst (backTo pos (starEach [] X.env)) (backToKw pos (keywordEach [] X.env))) := by rfl) : PE X (.Call (.Attribute o m apos) [] [] pos) (tMethZ C m sp dvs W ta tNil) := by
  constructor
  intro pins s σ H Q J q
  refine PySem.W.methodCall_KW (pl := pl) (thn (he.run pins s σ H _ J q) ?_) hev
  rintro u s1 ⟨v, H1, J1, rv, a, dx, fs, ev, ea, lk, q1⟩
  subst ev
  have eu : u = Value.ref a := rv
  subst eu
  exact getmeth_ok J1 ea cc mm lk (PySem.W.callWith_K0 (first := [.ref a]) J1.kIn mm.kp (fnz_run (us := [.ref a]) (vs := [.ref a]) F room bi dd tk J1 (.cons rfl .nil) q1))
/-- C(..) -/
theorem fnz_make {pins : List (Addr × Obj)} {σ : St} {H : Hp} {s : Shared} {Q : VK} {us : List Value} {vs : List V} (M : Mk X.K C f) (F : FnZ X.prog X.w X.K X.mg X.base k f fd ps sp) (room : RoomZ (k + 1) X.A) (bi : Binds X.K fd ps ds) (dd : Vals dvs ds) (tk : Takes X W)
    (J : Inv X pins σ H s) (rr : Vals vs us) (q : ∀ a dx, H a = none → H dx = none → dx ≠ a → sp (.ref a :: (vs ++ dvs)) (upd (upd H dx (.own a)) a (.ins C dx [])) (fun v H2 => v = .non ∧ Q (.ref a) H2) (WE W σ)) :
    wpAny (model X.prog X.w) X.A (call (.ref C) us) (EP X pins σ Q) X.xe s := by
  have q1 := q (s.heap.objs.size + 1) s.heap.objs.size (J.hok.fresh (Nat.le_succ _)) (J.hok.fresh (Nat.le_refl _)) (Nat.ne_of_lt (Nat.lt_succ_self _))
  have J2 := Inv.made (C := C) J
  have both : Vals (V.ref (s.heap.objs.size + 1) :: (vs ++ dvs)) (Value.ref (s.heap.objs.size + 1) :: (us ++ ds)) := .cons rfl (rr.append dd)
  have ll : (Value.ref (s.heap.objs.size + 1) :: us ++ ds).length = ps.length := both.length.symm.trans (F.len _ _ _ _ q1)
  have body := F.run _ X.stack _ _ ⟨Value.ref (s.heap.objs.size + 1) :: us, []⟩ (Value.ref (s.heap.objs.size + 1) :: (us ++ ds)) _ _ (WE W σ) (room.mk' C us []) (J2.env0.make C us []) (bi _ (Value.ref (s.heap.objs.size + 1) :: us) J2.kIn ll) both q1
  refine wpAny_call (make_map (f := f) J.kIn M.makes M.init (beq_iff_eq.mp M.fn) (codeAny_mono body fun out s' ho => ?_))
  match out, ho with
  | .error ev, ho => exact passAt tk σ pins _ _ ev s' J2 ho
  | .ok (.ret u), ho =>
    obtain ⟨v, H', J3, rv, ev, q3⟩ := J2.after ho
    subst ev
    exact ⟨rv, ⟨V.ref (s.heap.objs.size + 1), H', J3, rfl, q3⟩⟩
def tMakeZ (C : Addr) (sp : Sp) (dvs : List V) (W : WX) (t : TA) : TE := fun σ H Q => t σ H fun vs H1 => ∀ a dx, H1 a = none → H1 dx = none → dx ≠ a →
  sp (.ref a :: (vs ++ dvs)) (upd (upd H1 dx (.own a)) a (.ins C dx [])) (fun v H2 => v = .non ∧ Q (.ref a) H2) (WE W σ)
theorem fnz_mk (M : Mk X.K C f) (F : FnZ X.prog X.w X.K X.mg X.base k f fd ps sp) (room : RoomZ (k + 1) X.A) (gl : Gl X x) (mg : X.mg x = some (.ref C)) (bi : Binds X.K fd ps ds) (dd : Vals dvs ds) (tk : Takes X W) (args : PA X (e :: es) t)
    (hdb : (x == ("__debug__" : Str)) = false := by decide) (hse : starEach (e :: es) X.env = (false, eval e X.env) :: starEach es X.env := by rfl) (hpl : (backTo pos (starEach es X.env)).any (·.1) = false := by rfl) : PE X (.Call (.Name x p) (e :: es) [] pos) (tMakeZ C sp dvs W t) := by
  constructor
  intro pins s σ H Q J q
  apply wpAny_Call_Name_kw
  apply ld_glob J gl mg _ hdb
  refine PySem.W.callWith_K (h₀ := X.base) J.ok.mod.kin M.kp (thn (args.run pos pins s σ H _ J q) ?_) hse hpl
  rintro us s1 ⟨vs, H1, J1, r1, q1⟩
  exact ⟨J1.kIn, fnz_make M F room bi dd tk J1 r1 q1⟩
end

/-- a def by its body -/
theorem fnz_of {P : Program} {w : World} {K : PySem.W.Frag} {mg : Str → Option Value} {base : Heap} {k : Nat} {f : Addr} {name qual : Str} {params : Arguments} {body : List Stmt} {scope : Scope} {dV kV doc pm cdv ct oc : Value} {an od : Option Addr} {osl : Array (Option Value)} {N ps : List Str} {sp : Sp}
    (lk : K.lookup f = some ⟨oc, od, .func (PySem.W.fnOf name qual params body scope dV kV doc pm an cdv ct), osl⟩) (hcd : PySem.W.codeIn K cdv qual = true) (S : FnScope N ps scope) (len : ∀ vs H Q E, sp vs H Q E → vs.length = ps.length)
    (hb : ∀ (A : Around) (outer : List Env) (s : Shared) (H : Hp) (vs : List V) (Q : VK) (E : XK), RoomZ k (A.deeper (envOfC qual scope s.heap.objs.size f cdv)) → sp vs H Q E →
      ∃ t, PSs (cxOf (L2.CX P w) P w K mg base N qual scope f cdv A outer s H E) body t ∧ t { nx := fun _ H' => Q .non H', rt := Q } (L2.start N vs) H) :
    FnZ P w K mg base (k + 1) f (PySem.W.fnOf name qual params body scope dV kV doc pm an cdv ct) ps sp := by
  constructor
  · exact len
  intro A outer s H args us vs Q E room e0 bnd rr q
  have ll := len _ _ _ _ q
  have sub : ∀ b o, base.get? b = some o → s.heap.get? b = some o := fun b o e => (e0.bs b o e).1
  have kin : K.In s.heap := e0.mod.kin.keeps sub
  have kinds : ∀ y ∈ ps.zip us, scope.names.lookup y.1 = some .local ∨ (scope.names.lookup y.1 = some .cell ∧ ((cellsFrom (s.heap.objs.size + 1) scope.names []).lookup y.1).isSome = true) := by
    rintro ⟨n, v⟩ hy
    rcases S.par n (List.of_mem_zip hy).1 with z | z
    · exact .inl z
    · exact .inr ⟨z, PySem.W.cellsFrom_some _ _ _ (.inl z)⟩
  have dp : A.depth < recursionLimit := by have := room.dp; omega
  refine codeAny_call_function dp (kin _ _ lk) rfl S.co S.gen rfl (PySem.W.codeRec_of kin hcd) (bnd _ _ _ _ (wpAny_newFunctionEnv_cells S.kind kinds ?_))
  rintro env rfl s1 icc
  refine ⟨(e0.mod.nolimit.keeps sub).keeps icc.toInCall.keep, codeAny_func ?_⟩
  obtain ⟨t, ht, hq⟩ := hb A outer s H vs Q E (room.in _) q
  have J : Inv (cxOf (L2.CX P w) P w K mg base N qual scope f cdv A outer s H E) [] (L2.start N vs) H s1 := inv_start S room.hd e0 ll rr icc
  refine wpAny_mono (ht.run [] s1 (L2.start N vs) H _ J hq) (fun fl s' hs => ?_) fun _ _ hs => hs
  match fl, hs with
  | .ret u, ⟨v, _, H', J', rv, q'⟩ => exact ⟨v, H', J'.os, J'.bare, J'.base, J'.hok, rv, q'⟩
  | .next, ⟨_, H', J', q'⟩ => exact ⟨V.non, H', J'.os, J'.bare, J'.base, J'.hok, rfl, q'⟩
  | .brk, ⟨_, _, _, z⟩ => exact z.elim
  | .cont, ⟨_, _, _, z⟩ => exact z.elim

/-! ### what a def's function promises -/
def spZ (g : G) (n : Nat) (F : Fn) : Sp := fun vs H Q E => vs.length = n ∧ ∃ ρ A zs, RH g ρ A H ∧ RZs g ρ H zs vs ∧ OutR g (fun cl d _ H => E cl d H) [] ρ H (relZ g) Q (F zs A)
/-- a def's own run: its parameters, the other slots; falls off its end: None -/
def runD (n : Nat) (d : DS) : Fn := fun zs A => match d (zs.map Sl.va ++ List.replicate (n - zs.length) Sl.un) A with
  | .rt z A' => .ok z A'
  | .nx _ A' => .ok .non A'
  | .ex x _ A' => .ex x A'
  | _ => .no
theorem start_fr {g : G} {ρ : List Addr} {H : Hp} {N : List Str} {zs : List Z} {vs : List V} (r : RZs g ρ H zs vs) : RFr g none ρ H (zs.map Sl.va ++ List.replicate (N.length - zs.length) Sl.un) (L2.start N vs) := by
  have ll := r.length
  refine ⟨?_, fun i s hs => ?_⟩
  · unfold L2.start
    rw [List.length_append, List.length_append, List.length_map, List.length_map, List.length_replicate, List.length_replicate, ll]
  · by_cases hi : i < zs.length
    · rw [List.getElem?_append_left (by rw [List.length_map]; exact hi), List.getElem?_map] at hs
      cases e : zs[i]? with
      | none => rw [e] at hs; cases hs
      | some z =>
        rw [e] at hs
        cases hs
        obtain ⟨v, h1, h2⟩ := r.get e
        refine ⟨some v, ?_, .va h2⟩
        unfold L2.start
        rw [List.getElem?_append_left (by rw [List.length_map, ← ll]; exact hi), List.getElem?_map, h1]
        rfl
    · rw [List.getElem?_append_right (by rw [List.length_map]; omega), List.length_map, List.getElem?_replicate] at hs
      split at hs
      · rename_i hlt
        cases hs
        refine ⟨none, ?_, .un _⟩
        unfold L2.start
        rw [List.getElem?_append_right (by rw [List.length_map, ← ll]; omega), List.length_map, List.getElem?_replicate, if_pos (by omega)]
      · cases hs
abbrev cxZ (P : Program) (w : World) (g : G) (mg : Str → Option Value) (base : Heap) (N : List Str) (qual : Str) (sc : Scope) (f : Addr) (cdv : Value) (A : Around) (outer : List Env) (s : Shared) (H : Hp) (E : XK) : Cx :=
  cxOf (L2.CX P w) P w g.K mg base N qual sc f cdv A outer s H E
abbrev wZ (E : XK) : WX := fun cl d _ H => E cl d H
/-- THE RULE of a def -/
theorem fnz_def {P : Program} {w : World} {g : G} {mg : Str → Option Value} {base : Heap} {k : Nat} {f : Addr} {x qual : Str} {st : Stmt} {fd : FuncData} {N ps : List Str} {d : DS} (F : Fun g.K x qual st f fd) (S : FnScope N ps (defScope st))
    (hb : ∀ (cdv : Value) (A : Around) (outer : List Env) (s : Shared) (H : Hp) (E : XK), RoomZ k (cxZ P w g mg base N qual (defScope st) f cdv A outer s H E).A →
      SSs (cxZ P w g mg base N qual (defScope st) f cdv A outer s H E) g none (wZ E) (defBody st) d) :
    FnZ P w g.K mg base (k + 1) f fd ps (spZ g ps.length (runD N.length d)) := by
  obtain ⟨oc, od, kV, doc, pm, an, cdv, ct, osl, rfl, lk, hcd⟩ := F.ex
  refine fnz_of lk hcd S (fun vs H Q E q => q.1) fun A outer s H vs Q E room q => ⟨_, hb cdv A outer s H E room, ?_⟩
  obtain ⟨hl, ρ, B, zs, R, rz, out⟩ := q
  refine ⟨ρ, _, B, start_fr rz, R, ?_⟩
  unfold runD at out
  cases e : d (zs.map Sl.va ++ List.replicate (N.length - zs.length) Sl.un) B with
  | nx fr A' =>
    rw [e] at out
    exact fun ρ' H' σ' e' _ r' => out ρ' H' .non e' r' .non
  | rt z A' => rw [e] at out; exact out
  | bk _ _ => rw [e] at out; exact out.elim
  | ct _ _ => rw [e] at out; exact out.elim
  | ex x fr A' =>
    rw [e] at out
    exact fun ρ' H' σ' cl dd e' _ r' rx => out ρ' H' cl dd e' r' rx
  | no => rw [e] at out; exact out.elim

/-! ### calls within a denotation -/
section
variable {X : Cx} {g : G} {xi : XI} {W : WX} {k : Nat} {x m : Str} {a o e : Expr} {es : List Expr} {da dO : DE} {dr : DA} {F : Fn} {p pos apos : Pos}
theorem OutR.fn {σ : St} {ρ : List Addr} {A : ZH} {H : Hp} {Q : VK} {zs : List Z} {vs : List V} (R : RH g ρ A H) (r : RZs g ρ H zs vs) (h : OutR g W σ ρ H (relZ g) Q (F zs A)) : spZ g vs.length F vs H Q (WE W σ) := by
  refine ⟨rfl, ρ, A, zs, R, r, ?_⟩
  cases q : F zs A with
  | ok z A' => rw [q] at h; exact h
  | ex x A' => rw [q] at h; exact h
  | no => rw [q] at h; exact h
/-- a def that a name is bound to: n parameters, dz for the last ones that are not given -/
def CalZ (P : Program) (w : World) (mg : Str → Option Value) (base : Heap) (g : G) (k : Nat) (x : Str) (n : Nat) (dz : List Z) (F : Fn) : Prop :=
  ∃ f fd ps ds dvs, ps.length = n ∧ mg x = some (.ref f) ∧ PySem.W.keepIn g.K (.ref f) = true ∧ Binds g.K fd ps ds ∧ Vals dvs ds ∧ (∀ ρ H, RZs g ρ H dz dvs) ∧ FnZ P w g.K mg base k f fd ps (spZ g n F)
def dCall (F : Fn) (dz : List Z) (da : DA) : DE := fun fr A => (da fr A).bd fun zs A1 => F (zs ++ dz) A1
theorem call_out {n : Nat} {dz : List Z} {σ : St} {ρ : List Addr} {A : ZH} {H : Hp} {Q : VK} {zs : List Z} {vs dvs : List V} (R : RH g ρ A H) (r : RZs g ρ H zs vs) (rd : RZs g ρ H dz dvs) (hn : zs.length + dz.length = n) (h : OutR g W σ ρ H (relZ g) Q (F (zs ++ dz) A)) : spZ g n F (vs ++ dvs) H Q (WE W σ) := by
  have q := OutR.fn R (r.append rd) h
  rw [List.length_append, ← r.length, ← rd.length, hn] at q
  exact q
/-- as many values -/
def Cnt (d : DA) (n : Nat) : Prop := ∀ fr A zs A1, d fr A = .ok zs A1 → zs.length = n
theorem cnt_nil : Cnt dNil 0 := fun fr A zs A1 h => by cases h; rfl
theorem cnt_cons {da : DE} {dr : DA} {n : Nat} (h : Cnt dr n) : Cnt (dCons da dr) (n + 1) := fun fr A zs A1 q => by
  unfold dCons at q
  cases e : da fr A with
  | ok z A2 =>
    rw [e, R.bd_ok] at q
    cases e2 : dr fr A2 with
    | ok zs2 A3 =>
      rw [e2, R.bd_ok] at q
      cases q
      rw [List.length_cons, h _ _ _ _ e2]
    | ex x A3 => rw [e2] at q; cases q
    | no => rw [e2] at q; cases q
  | ex x A2 => rw [e] at q; cases q
  | no => rw [e] at q; cases q
theorem e_call {n c0 : Nat} {dz : List Z} {j : Nat} (c : CalZ X.prog X.w X.mg X.base g k x n dz F) (room : RoomZ j X.A) (tk : Takes X W) (ha : SA X g xi W (e :: es) dr) (hk : k ≤ j := by decide) (hK : X.K = g.K := by rfl) (gl : Gl X x := by rfl)
    (hc : Cnt dr c0 := by first | exact cnt_cons cnt_nil | exact cnt_cons (cnt_cons cnt_nil) | exact cnt_cons (cnt_cons (cnt_cons cnt_nil)) | exact cnt_cons (cnt_cons (cnt_cons (cnt_cons cnt_nil)))) (hn : c0 + dz.length = n := by rfl)
    (hdb : (x == ("__debug__" : Str)) = false := by decide) (hse : starEach (e :: es) X.env = (false, eval e X.env) :: starEach es X.env := by rfl) (hpl : (backTo pos (starEach es X.env)).any (·.1) = false := by rfl) : SE X g xi W (.Call (.Name x p) (e :: es) [] pos) (dCall F dz dr) := by
  obtain ⟨f, fd, ps, ds, dvs, hl, hm, kp, bi, dd, rdz, FF⟩ := c
  rw [← hK] at kp bi FF
  refine PE.imp (fnz_call FF (room.mono hk) gl hm kp bi dd tk ha hdb hse hpl) fun σ H Q h => ?_
  obtain ⟨ρ, fr, A, hf, hr, h⟩ := h
  refine ⟨ρ, fr, A, hf, hr, ?_⟩
  unfold dCall at h
  cases q : dr fr A with
  | ok zs A1 =>
    rw [q] at h
    intro ρ' H' vs e' r' rv
    exact call_out r' rv (rdz _ _) (by rw [hc _ _ _ _ q]; exact hn) (OutR.ext e' h)
  | ex x A1 => rw [q] at h; exact h
  | no => rw [q] at h; exact h.elim
theorem e_call0 {n : Nat} {dz : List Z} {j : Nat} (c : CalZ X.prog X.w X.mg X.base g k x n dz F) (room : RoomZ j X.A) (tk : Takes X W) (hk : k ≤ j := by decide) (hK : X.K = g.K := by rfl) (gl : Gl X x := by rfl) (hn : dz.length = n := by rfl)
    (hdb : (x == ("__debug__" : Str)) = false := by decide) : SE X g xi W (.Call (.Name x p) [] [] pos) (dCall F dz dNil) := by
  obtain ⟨f, fd, ps, ds, dvs, hl, hm, kp, bi, dd, rdz, FF⟩ := c
  rw [← hK] at kp bi FF
  refine PE.imp (fnz_call0 FF (room.mono hk) gl hm kp bi dd tk hdb) fun σ H Q h => ?_
  obtain ⟨ρ, fr, A, hf, hr, h⟩ := h
  exact call_out (zs := []) hr .nil (rdz _ _) (by simpa using hn) h

/-! ### classes -/
/-- a class: c's address is that of a class whose objects are plain -/
structure ClZ (g : G) (c : Nat) : Prop where
  cl : Cls g.K (g.cls c)
  few : (g.fld c).length < 900
  nd : (g.fld c).Nodup
  na : ∀ f ∈ g.fld c, NoAttr g.K (g.cls c) f
theorem RFs.out {ρ : List Addr} {H : Hp} {c : Nat} {fs : List (Option Z)} {ks : List (Str × V)} (r : RFs g ρ H c fs ks) (hm : m ∉ g.fld c) : ks.lookup m = none := r.no m hm
/-- o.m(..): the classes that o may have, each with its method -/
def dMeth (tb : List (Nat × Fn)) (dO : DE) (da : DA) (dz : List Z) : DE := fun fr A => (dO fr A).bd fun v A1 => match v with
  | .ref n => match A1.get n with
    | some (.ins c _) => match tb.lookup c with
      | some F => (da fr A1).bd fun zs A2 => F (v :: (zs ++ dz)) A2
      | none => .no
    | _ => .no
  | _ => .no
def MetZ (P : Program) (w : World) (mg : Str → Option Value) (base : Heap) (g : G) (k : Nat) (c : Nat) (m : Str) (n : Nat) (dz : List Z) (F : Fn) : Prop :=
  ClZ g c ∧ m ∉ g.fld c ∧ ∃ f fd ps ds dvs, ps.length = n ∧ Meth g.K (g.cls c) m f ∧ Binds g.K fd ps ds ∧ Vals dvs ds ∧ (∀ ρ H, RZs g ρ H dz dvs) ∧ FnZ P w g.K mg base k f fd ps (spZ g n F)
end
end Zed

/-! Zed 5: methods, making, fields. -/
namespace Zed
open PySem PyProof.Rows L2
section
variable {X : Cx} {g : G} {xi : XI} {W : WX} {k j : Nat} {x m : Str} {a o e : Expr} {es : List Expr} {da dO : DE} {dr : DA} {p pos apos : Pos} {n c0 : Nat} {dz : List Z} {tb : List (Nat × Fn)}

theorem PE.some {ι : Type} {e : Expr} {t : ι → TE} (h : ∀ i, PE X e (t i)) : PE X e (fun σ H Q => ∃ i, t i σ H Q) := ⟨fun pins s σ H Q I ⟨i, q⟩ => (h i).run pins s σ H Q I q⟩
theorem lookup_mem {α : Type} : ∀ {l : List (Nat × α)} {c : Nat} {v : α}, l.lookup c = some v → (c, v) ∈ l
  | [], _, _, h => by cases h
  | (k, u) :: r, c, v, h => by
    by_cases e : c = k
    · subst e
      have z : List.lookup c ((c, u) :: r) = some u := by simp [List.lookup]
      rw [z] at h
      cases h
      exact List.mem_cons_self
    · have z : List.lookup c ((k, u) :: r) = r.lookup c := by
        have q : (c == k) = false := beq_eq_false_iff_ne.mpr e
        simp [List.lookup, q]
      rw [z] at h
      exact List.mem_cons_of_mem _ (lookup_mem h)
def MetPack (X : Cx) (g : G) (k n : Nat) (m : Str) (dz : List Z) (tb : List (Nat × Fn)) : Prop := ∀ q ∈ tb, MetZ X.prog X.w X.mg X.base g k q.1 m n dz q.2
theorem pack_nil : MetPack X g k n m dz [] := fun q h => by cases h
theorem pack_cons {c : Nat} {F : Fn} (h : MetZ X.prog X.w X.mg X.base g k c m n dz F) (t : MetPack X g k n m dz tb) : MetPack X g k n m dz ((c, F) :: tb) := fun q hq => by
  rcases List.mem_cons.mp hq with e | hq
  · subst e; exact h
  · exact t q hq
theorem meth_arg {σ : St} {H : Hp} {Q : VK} {ρ : List Addr} {fr : Fr} {A : ZH} {F : Fn} {u : V} {v : Z} {dvs : List V} (hc : Cnt dr c0) (hn : c0 + dz.length + 1 = n) (rdz : ∀ ρ H, RZs g ρ H dz dvs) (hf : RFr g xi ρ H fr σ) (hr : RH g ρ A H) (rv : RZ g ρ H v u)
    (h : OutR g W σ ρ H (relZ g) Q ((dr fr A).bd fun zs A2 => F (v :: (zs ++ dz)) A2)) : rd g xi W (relZs g) dr σ H fun vs H2 => spZ g n F (u :: (vs ++ dvs)) H2 Q (WE W σ) := by
  refine ⟨ρ, fr, A, hf, hr, ?_⟩
  cases q : dr fr A with
  | ok zs A1 =>
    rw [q] at h
    intro ρ' H' vs e' r' rz
    have all : RZs g ρ' H' (v :: (zs ++ dz)) (u :: (vs ++ dvs)) := .cons (rv.mono e') (rz.append (rdz _ _))
    have z := OutR.fn (W := W) (σ := σ) (Q := Q) (F := F) r' all (OutR.ext e' h)
    rw [← all.length, List.length_cons, List.length_append, hc _ _ _ _ q, hn] at z
    exact z
  | ex x A1 => rw [q] at h; exact h
  | no => rw [q] at h; exact h.elim
theorem meth_run {σ : St} {H : Hp} {Q : VK} {q0 : Nat × Fn} (P : MetPack X g k n m dz (q0 :: tb)) (hc : Cnt dr c0) (hn : c0 + dz.length + 1 = n) (h : rd g xi W (relZ g) (dMeth (q0 :: tb) dO dr dz) σ H Q) :
    ∃ (c : Nat) (F : Fn), (c, F) ∈ q0 :: tb ∧ ∀ dvs, (∀ ρ H, RZs g ρ H dz dvs) → tMethZ (g.cls c) m (spZ g n F) dvs W (rd g xi W (relZ g) dO) (rd g xi W (relZs g) dr) σ H Q := by
  obtain ⟨ρ, fr, A, hf, hr, h⟩ := h
  unfold dMeth at h
  cases q : dO fr A with
  | no => rw [q] at h; exact h.elim
  | ex y A1 =>
    refine ⟨q0.1, q0.2, List.mem_cons_self, fun dvs rdz => ⟨ρ, fr, A, hf, hr, ?_⟩⟩
    rw [q] at h ⊢
    exact h
  | ok v A1 =>
    rw [q, R.bd_ok] at h
    cases v with
    | ref i =>
      dsimp only at h
      cases e1 : A1.get i with
      | none => rw [e1] at h; exact h.elim
      | some ob =>
        rw [e1] at h
        cases ob with
        | ins c fs =>
          dsimp only at h
          cases e2 : (q0 :: tb).lookup c with
          | none => rw [e2] at h; exact h.elim
          | some F =>
            rw [e2] at h
            have hm := lookup_mem e2
            refine ⟨c, F, hm, fun dvs rdz => ⟨ρ, fr, A, hf, hr, ?_⟩⟩
            rw [q]
            intro ρ1 H1 u e' r' rv
            cases rv with
            | @ref _ ad ha =>
              obtain ⟨dx, ks, h1, h2, _, _⟩ := r'.ins ha e1
              exact ⟨ad, dx, ks, rfl, h1, h2.out (P _ hm).2.1, meth_arg hc hn rdz (hf.mono e') r' (.ref ha) (OutR.ext e' h)⟩
        | _ => exact h.elim
    | _ => exact h.elim
theorem e_meth {q0 : Nat × Fn} {pl : Sem Bool} (P : MetPack X g k n m dz (q0 :: tb)) (room : RoomZ j X.A) (tk : Takes X W) (ho : SE X g xi W o dO) (ha : SA X g xi W (e :: es) dr) (hk : k ≤ j := by decide) (hK : X.K = g.K := by rfl)
    (hc : Cnt dr c0 := by first | exact cnt_cons cnt_nil | exact cnt_cons (cnt_cons cnt_nil) | exact cnt_cons (cnt_cons (cnt_cons cnt_nil)) | exact cnt_cons (cnt_cons (cnt_cons (cnt_cons cnt_nil)))) (hn : c0 + dz.length + 1 = n := by rfl)
    (hse : starEach (e :: es) X.env = (false, eval e X.env) :: starEach es X.env := by rfl) (hpl : (backTo pos (starEach es X.env)).any (·.1) = false := by rfl)
    (hev : eval (.Call (.Attribute o m apos) (e :: es) [] pos) X.env = (do
      let recv ← eval o X.env
      standAt apos.atName
      let (fn, fst) ← holding [recv] (getMethod recv m pl)
      callWith pos fn fst (backTo pos (starEach (e :: es) X.env)) (backToKw pos (keywordEach [] X.env))) := by rfl) : SE X g xi W (.Call (.Attribute o m apos) (e :: es) [] pos) (dMeth (q0 :: tb) dO dr dz) := by
  refine PE.imp (PE.some (ι := { r : (Nat × Fn) × List V // r.1 ∈ q0 :: tb ∧ ∃ f fd ps ds, ps.length = n ∧ Meth g.K (g.cls r.1.1) m f ∧ Binds g.K fd ps ds ∧ Vals r.2 ds ∧ FnZ X.prog X.w g.K X.mg X.base k f fd ps (spZ g n r.1.2) })
    (t := fun i => tMethZ (g.cls i.1.1.1) m (spZ g n i.1.1.2) i.1.2 W (rd g xi W (relZ g) dO) (rd g xi W (relZs g) dr)) fun i => ?_) fun σ H Q h => ?_
  · obtain ⟨⟨⟨c, F⟩, dvs⟩, hm, f, fd, ps, ds, hl, mm, bi, dd, FF⟩ := i
    have cc := (P _ hm).1.cl
    rw [← hK] at mm bi FF cc
    exact fnz_meth ho cc mm FF (room.mono hk) bi dd tk ha hse hpl hev
  · obtain ⟨c, F, hm, q⟩ := meth_run P hc hn h
    obtain ⟨_, _, f, fd, ps, ds, dvs, hl, mm, bi, dd, rdz, FF⟩ := P _ hm
    exact ⟨⟨⟨(c, F), dvs⟩, hm, f, fd, ps, ds, hl, mm, bi, dd, FF⟩, q dvs rdz⟩
theorem e_meth0 {q0 : Nat × Fn} {pl : Sem Bool} (P : MetPack X g k n m dz (q0 :: tb)) (room : RoomZ j X.A) (tk : Takes X W) (ho : SE X g xi W o dO) (hk : k ≤ j := by decide) (hK : X.K = g.K := by rfl) (hn : 0 + dz.length + 1 = n := by rfl)
    (hev : eval (.Call (.Attribute o m apos) [] [] pos) X.env = (do
      let recv ← eval o X.env
      standAt apos.atName
      let (fn, fst) ← holding [recv] (getMethod recv m pl)
      callWith pos fn fst (backTo pos (starEach [] X.env)) (backToKw pos (keywordEach [] X.env))) := by rfl) : SE X g xi W (.Call (.Attribute o m apos) [] [] pos) (dMeth (q0 :: tb) dO dNil dz) := by
  refine PE.imp (PE.some (ι := { r : (Nat × Fn) × List V // r.1 ∈ q0 :: tb ∧ ∃ f fd ps ds, ps.length = n ∧ Meth g.K (g.cls r.1.1) m f ∧ Binds g.K fd ps ds ∧ Vals r.2 ds ∧ FnZ X.prog X.w g.K X.mg X.base k f fd ps (spZ g n r.1.2) })
    (t := fun i => tMethZ (g.cls i.1.1.1) m (spZ g n i.1.1.2) i.1.2 W (rd g xi W (relZ g) dO) tNil) fun i => ?_) fun σ H Q h => ?_
  · obtain ⟨⟨⟨c, F⟩, dvs⟩, hm, f, fd, ps, ds, hl, mm, bi, dd, FF⟩ := i
    have cc := (P _ hm).1.cl
    rw [← hK] at mm bi FF cc
    exact fnz_meth0 ho cc mm FF (room.mono hk) bi dd tk hev
  · obtain ⟨c, F, hm, q⟩ := meth_run P cnt_nil hn h
    obtain ⟨_, _, f, fd, ps, ds, dvs, hl, mm, bi, dd, rdz, FF⟩ := P _ hm
    refine ⟨⟨⟨(c, F), dvs⟩, hm, f, fd, ps, ds, hl, mm, bi, dd, FF⟩, ?_⟩
    obtain ⟨ρ, fr, A, hf, hr, z⟩ := q dvs rdz
    refine ⟨ρ, fr, A, hf, hr, ?_⟩
    cases y : dO fr A with
    | no => rw [y] at z; exact z
    | ex _ _ => rw [y] at z; exact z
    | ok v A1 =>
      rw [y] at z
      intro ρ' H' b e' r' rv
      obtain ⟨a, dx, fs, h1, h2, h3, ρ2, fr2, A2, hf2, hr2, h4⟩ := z ρ' H' b e' r' rv
      exact ⟨a, dx, fs, h1, h2, h3, h4 ρ2 H' [] (.refl _ _) hr2 .nil⟩

/-! ### C(..) -/
def dMake (c : Nat) (F : Fn) (dz : List Z) (da : DA) : DE := fun fr A => (da fr A).bd fun zs A1 => (F (.ref A1.n :: (zs ++ dz)) (A1.push (.ins c []))).bd fun r A2 => match r with
  | .non => .ok (.ref A1.n) A2
  | _ => .no
def MakZ (P : Program) (w : World) (mg : Str → Option Value) (base : Heap) (g : G) (k : Nat) (x : Str) (c n : Nat) (dz : List Z) (F : Fn) : Prop :=
  ClZ g c ∧ ∃ f fd ps ds dvs, ps.length = n ∧ mg x = some (.ref (g.cls c)) ∧ Mk g.K (g.cls c) f ∧ Binds g.K fd ps ds ∧ Vals dvs ds ∧ (∀ ρ H, RZs g ρ H dz dvs) ∧ FnZ P w g.K mg base k f fd ps (spZ g n F)
theorem make_out {σ : St} {ρ : List Addr} {A : ZH} {H : Hp} {Q : VK} {c : Nat} {F : Fn} {zs : List Z} {vs dvs : List V} (R : RH g ρ A H) (r : RZs g ρ H zs vs) (rdz : ∀ ρ H, RZs g ρ H dz dvs) (hn : zs.length + dz.length + 1 = n)
    (h : OutR g W σ ρ H (relZ g) Q ((F (.ref A.n :: (zs ++ dz)) (A.push (.ins c []))).bd fun r A2 => match r with
      | .non => .ok (.ref A.n) A2
      | _ => .no)) (a dx : Addr) (ha : H a = none) (hd : H dx = none) (ne : dx ≠ a) :
    spZ g n F (.ref a :: (vs ++ dvs)) (upd (upd H dx (.own a)) a (.ins (g.cls c) dx [])) (fun v H2 => v = .non ∧ Q (.ref a) H2) (WE W σ) := by
  obtain ⟨R1, e1⟩ := R.made (c := c) ha hd ne
  have all : RZs g (ρ ++ [a]) (upd (upd H dx (.own a)) a (.ins (g.cls c) dx [])) (.ref A.n :: (zs ++ dz)) (.ref a :: (vs ++ dvs)) := .cons (.ref (get_end R a)) ((r.mono e1).append (rdz _ _))
  have h := OutR.ext e1 h
  have z : OutR g W σ (ρ ++ [a]) (upd (upd H dx (.own a)) a (.ins (g.cls c) dx [])) (relZ g) (fun v H2 => v = .non ∧ Q (.ref a) H2) (F (.ref A.n :: (zs ++ dz)) (A.push (.ins c []))) := by
    cases q : F (.ref A.n :: (zs ++ dz)) (A.push (.ins c [])) with
    | no => rw [q] at h; exact h.elim
    | ex y A1 => rw [q] at h; exact h
    | ok v A1 =>
      rw [q, Zed.R.bd_ok] at h
      cases v with
      | non =>
        intro ρ' H' b e' r' rv
        cases rv
        exact ⟨rfl, h ρ' H' (.ref a) e' r' (.ref (e'.get (get_end R a)))⟩
      | _ => exact h.elim
  have w := OutR.fn R1 all z
  rw [← all.length, List.length_cons, List.length_append, hn] at w
  exact w
theorem e_make {c : Nat} {F : Fn} (M : MakZ X.prog X.w X.mg X.base g k x c n dz F) (room : RoomZ j X.A) (tk : Takes X W) (ha : SA X g xi W (e :: es) dr) (hk : k + 1 ≤ j := by decide) (hK : X.K = g.K := by rfl) (gl : Gl X x := by rfl)
    (hc : Cnt dr c0 := by first | exact cnt_cons cnt_nil | exact cnt_cons (cnt_cons cnt_nil) | exact cnt_cons (cnt_cons (cnt_cons cnt_nil)) | exact cnt_cons (cnt_cons (cnt_cons (cnt_cons cnt_nil)))) (hn : c0 + dz.length + 1 = n := by rfl)
    (hdb : (x == ("__debug__" : Str)) = false := by decide) (hse : starEach (e :: es) X.env = (false, eval e X.env) :: starEach es X.env := by rfl) (hpl : (backTo pos (starEach es X.env)).any (·.1) = false := by rfl) : SE X g xi W (.Call (.Name x p) (e :: es) [] pos) (dMake c F dz dr) := by
  obtain ⟨cz, f, fd, ps, ds, dvs, hl, hm, mk, bi, dd, rdz, FF⟩ := M
  rw [← hK] at mk bi FF
  refine PE.imp (fnz_mk mk FF (room.mono hk) gl hm bi dd tk ha hdb hse hpl) fun σ H Q h => ?_
  obtain ⟨ρ, fr, A, hf, hr, h⟩ := h
  refine ⟨ρ, fr, A, hf, hr, ?_⟩
  unfold dMake at h
  cases q : dr fr A with
  | ok zs A1 =>
    rw [q, R.bd_ok] at h
    intro ρ' H' vs e' r' rv a dx na nd ne
    exact make_out r' rv rdz (by rw [hc _ _ _ _ q]; exact hn) (OutR.ext e' h) a dx na nd ne
  | ex x A1 => rw [q] at h; exact h
  | no => rw [q] at h; exact h.elim

/-! ### fields -/
def getF (fs : List (Option Z)) (i : Nat) : Option Z := fs[i]?.join
def setF (fs : List (Option Z)) (i : Nat) (z : Z) : List (Option Z) := if i < fs.length then fs.set i (some z) else fs ++ List.replicate (i - fs.length) none ++ [some z]
theorem getF_setF (fs : List (Option Z)) (i : Nat) (z : Z) (l : Nat) : getF (setF fs i z) l = if l = i then some z else getF fs l := by
  unfold setF getF
  by_cases hi : i < fs.length
  · rw [if_pos hi]
    by_cases hl : l = i
    · subst hl
      rw [if_pos rfl, List.getElem?_set_self hi]
      rfl
    · rw [if_neg hl, List.getElem?_set_ne (Ne.symm hl)]
  · rw [if_neg hi]
    by_cases hl : l = i
    · subst hl
      rw [if_pos rfl, List.getElem?_append_right (by rw [List.length_append, List.length_replicate]; omega)]
      have z0 : l - (fs ++ List.replicate (l - fs.length) (none : Option Z)).length = 0 := by rw [List.length_append, List.length_replicate]; omega
      rw [z0]
      rfl
    · rw [if_neg hl]
      by_cases h1 : l < fs.length
      · rw [List.getElem?_append_left (by rw [List.length_append]; omega), List.getElem?_append_left h1]
      · rw [List.getElem?_eq_none (l := fs) (by omega)]
        by_cases h2 : l < i
        · rw [List.getElem?_append_left (by rw [List.length_append, List.length_replicate]; omega), List.getElem?_append_right (by omega), List.getElem?_replicate]
          split <;> rfl
        · rw [List.getElem?_eq_none (by rw [List.length_append, List.length_append, List.length_replicate, List.length_singleton]; omega)]
/-- o.f: the classes that o may have, each with the field's place -/
def dFld (tb : List (Nat × Nat)) (dO : DE) : DE := fun fr A => (dO fr A).bd fun v A1 => match v with
  | .ref n => match A1.get n with
    | some (.ins c fs) => match tb.lookup c with
      | some i => match getF fs i with
        | some z => .ok z A1
        | none => .no
      | none => .no
    | _ => .no
  | _ => .no
def FldPack (g : G) (f : Str) (tb : List (Nat × Nat)) : Prop := ∀ q ∈ tb, ClZ g q.1 ∧ (g.fld q.1)[q.2]? = some f
theorem fpack_nil {f : Str} : FldPack g f [] := fun q h => by cases h
theorem fpack_cons {f : Str} {c i : Nat} {tb : List (Nat × Nat)} (h : ClZ g c) (hi : (g.fld c)[i]? = some f) (t : FldPack g f tb) : FldPack g f ((c, i) :: tb) := fun q hq => by
  rcases List.mem_cons.mp hq with e | hq
  · subst e; exact ⟨h, hi⟩
  · exact t q hq
theorem RF1.some {ρ : List Addr} {H : Hp} {z : Z} {o : Option V} (h : RF1 g ρ H (some z) o) : ∃ v, o = .some v ∧ RZ g ρ H z v := by
  cases o with
  | none => exact h.elim
  | some v => exact ⟨v, rfl, h⟩
theorem e_fld {f : Str} {tb : List (Nat × Nat)} (P : FldPack g f tb) (ho : SE X g xi W o dO) (hK : X.K = g.K := by rfl) (hb : attributeBase o f X.env (eval o X.env) = eval o X.env := by rfl) : SE X g xi W (.Attribute o f pos) (dFld tb dO) := by
  refine PE.imp (pe_fld ho hb) fun σ H Q h => ?_
  obtain ⟨ρ, fr, A, hf, hr, h⟩ := h
  refine bd_run hf hr h fun v A1 ρ1 H1 u e1 hf1 hr1 rv ho1 => ?_
  cases v with
  | ref i =>
    dsimp only at ho1
    cases q : A1.get i with
    | none => rw [q] at ho1; exact ho1.elim
    | some ob =>
      rw [q] at ho1
      cases ob with
      | ins c fs =>
        dsimp only at ho1
        cases q2 : tb.lookup c with
        | none => rw [q2] at ho1; exact ho1.elim
        | some l =>
          rw [q2] at ho1
          dsimp only at ho1
          cases q3 : getF fs l with
          | none => rw [q3] at ho1; exact ho1.elim
          | some z =>
            rw [q3] at ho1
            obtain ⟨cz, hx⟩ := P _ (lookup_mem q2)
            cases rv with
            | @ref _ ad ha =>
              obtain ⟨dx, ks, h1, h2, _, _⟩ := hr1.ins ha q
              have h3 := h2.at_ l f hx
              have q3' : fs[l]?.join = some z := q3
              rw [q3'] at h3
              obtain ⟨w, hw, rw'⟩ := h3.some
              rw [hK]
              exact ⟨ad, g.cls c, dx, ks, w, rfl, h1, cz.cl, cz.na f (List.mem_of_getElem? hx), hw, ho1 ρ1 H1 w (.refl _ _) hr1 rw'⟩
      | _ => exact ho1.elim
  | _ => exact ho1.elim
/-- o.f = e -/
def dSetFld (tb : List (Nat × Nat)) (dO dv : DE) : DS := fun fr A => (dv fr A).st fr fun z A1 => (dO fr A1).st fr fun v A2 => match v with
  | .ref n => match A2.get n with
    | some (.ins c fs) => match tb.lookup c with
      | some i => .nx fr (A2.set n (.ins c (setF fs i z)))
      | none => .no
    | _ => .no
  | _ => .no
theorem keys_put (f : Str) (v : V) : ∀ ks : List (Str × V), (ks.map (·.1)).Nodup → ((putF f v ks).map (·.1)).Nodup ∧ ∀ y ∈ (putF f v ks).map (·.1), y = f ∨ y ∈ ks.map (·.1)
  | [], _ => ⟨by simp [putF], fun y h => by simp [putF] at h; exact .inl h⟩
  | (k, u) :: r, nd => by
    rw [show putF f v ((k, u) :: r) = (if k = f then (k, v) :: r else (k, u) :: putF f v r) from rfl]
    have nd' := List.nodup_cons.mp (by simpa using nd : (k :: r.map (·.1)).Nodup)
    by_cases e : k = f
    · rw [if_pos e]
      exact ⟨by simpa using nd, fun y h => .inr (by simpa using h)⟩
    · rw [if_neg e]
      obtain ⟨i1, i2⟩ := keys_put f v r nd'.2
      refine ⟨?_, fun y h => ?_⟩
      · rw [List.map_cons, List.nodup_cons]
        refine ⟨fun h => ?_, i1⟩
        rcases i2 _ h with q | q
        · exact e q
        · exact nd'.1 q
      · rw [List.map_cons] at h
        rcases List.mem_cons.mp h with q | q
        · exact .inr (by rw [q]; simp)
        · rcases i2 y q with q | q
          · exact .inl q
          · exact .inr (by rw [List.map_cons]; exact List.mem_cons_of_mem _ q)
theorem RFs.put {ρ : List Addr} {H : Hp} {c i : Nat} {f : Str} {z : Z} {v : V} {fs : List (Option Z)} {ks : List (Str × V)} (h : RFs g ρ H c fs ks) (nd : (g.fld c).Nodup) (hi : (g.fld c)[i]? = some f) (r : RZ g ρ H z v) : RFs g ρ H c (setF fs i z) (putF f v ks) := by
  have mem : f ∈ g.fld c := List.mem_of_getElem? hi
  obtain ⟨n1, n2⟩ := keys_put f v ks h.nd
  refine ⟨fun l y hy => ?_, fun y hy => ?_, n1, fun y hy => ?_⟩
  · have e : (setF fs i z)[l]?.join = if l = i then some z else fs[l]?.join := getF_setF fs i z l
    rw [e, lookup_putF]
    by_cases hl : l = i
    · subst hl
      rw [hi] at hy
      cases hy
      rw [if_pos rfl, if_pos rfl]
      exact r
    · have ne : y ≠ f := fun q => by
        subst q
        obtain ⟨l1, e1⟩ := List.getElem?_eq_some_iff.mp hy
        obtain ⟨l2, e2⟩ := List.getElem?_eq_some_iff.mp hi
        exact hl ((List.getElem_inj nd).mp (e1.trans e2.symm))
      rw [if_neg hl, if_neg ne]
      exact h.at_ l y hy
  · have ne : y ≠ f := fun q => hy (by rw [q]; exact mem)
    rw [lookup_putF, if_neg ne]
    exact h.no y hy
  · rcases n2 y hy with q | q
    · rw [q]; exact mem
    · exact h.sub y q
theorem put_out {ρ : List Addr} {A : ZH} {H : Hp} {c i l : Nat} {f : Str} {z : Z} {v : V} {fs : List (Option Z)} {ad : Addr} (R : RH g ρ A H) (cz : ClZ g c) (hi : (g.fld c)[i]? = some f) (r : RZ g ρ H z v) (ha : ρ[l]? = some ad) (q : A.get l = some (.ins c fs)) :
    ∃ dx ks, H ad = some (.ins (g.cls c) dx ks) ∧ ks.length < 1000 ∧ RH g ρ (A.set l (.ins c (setF fs i z))) (upd H ad (.ins (g.cls c) dx (putF f v ks))) ∧ Ext ρ H ρ (upd H ad (.ins (g.cls c) dx (putF f v ks))) := by
  obtain ⟨dx, ks, h1, h2, h3, h4⟩ := R.ins ha q
  have few := h2.few
  have fc := cz.few
  refine ⟨dx, ks, h1, by omega, ?_⟩
  refine R.upd ha (.ins (h2.put cz.nd hi r) h3) fun C dy ks' e => ?_
  cases e
  exact ⟨fun z => h3 (by rw [z]; exact mem_of_get ha), h4⟩
theorem s_fld {f : Str} {tb : List (Nat × Nat)} {value : Expr} {dv : DE} {pos' : Pos} (P : FldPack g f tb) (ho : SE X g xi W o dO) (hv : SE X g xi W value dv) (hK : X.K = g.K := by rfl) (hs : swapsWith value (some (.Attribute o f pos')) pos.line X.env = pure false := by rfl) : SSt X g xi W (.Assign [.Attribute o f pos'] value pos) (dSetFld tb dO dv) := by
  refine PS.imp (ps_fld ho hv hs) fun D σ H h => ?_
  obtain ⟨ρ, fr, A, hf, hr, h⟩ := h
  refine st_run hf hr h fun z A1 ρ1 H1 zv e1 hf1 hr1 rz ho1 => ?_
  refine st_run hf1 hr1 ho1 fun v A2 ρ2 H2 u e2 hf2 hr2 rv ho2 => ?_
  cases v with
  | ref i =>
    dsimp only at ho2
    cases q : A2.get i with
    | none => rw [q] at ho2; exact ho2.elim
    | some ob =>
      rw [q] at ho2
      cases ob with
      | ins c fs =>
        dsimp only at ho2
        cases q2 : tb.lookup c with
        | none => rw [q2] at ho2; exact ho2.elim
        | some l =>
          rw [q2] at ho2
          obtain ⟨cz, hx⟩ := P _ (lookup_mem q2)
          cases rv with
          | @ref _ ad ha =>
            obtain ⟨dx, ks, h1, h2, R3, e3⟩ := put_out hr2 cz hx (rz.mono e2) ha q
            rw [hK]
            exact ⟨ad, g.cls c, dx, ks, rfl, h1, cz.cl, cz.na f (List.mem_of_getElem? hx), h2, ho2 ρ2 _ σ e3 (hf2.mono e3) R3⟩
      | _ => exact ho2.elim
  | _ => exact ho2.elim
end
end Zed

/-! Zed 6: statements, targets, loops, comprehensions. -/
namespace Zed
open PySem PyProof.Rows L2
section
variable {X : Cx} {g : G} {xi : XI} {W : WX} {e o a b : Expr} {es : List Expr} {d da db dO : DE} {pos : Pos} {st : Stmt} {sts sts2 : List Stmt} {ds du : DS} {t : DT}

def dNop : DS := fun fr A => .nx fr A
def dSeq (a b : DS) : DS := fun fr A => (a fr A).sq b
theorem ss_nil : SSs X g xi W [] dNop := by
  refine PSs.imp pss_nil fun D σ H h => ?_
  obtain ⟨ρ, fr, A, hf, hr, h⟩ := h
  exact h ρ H σ (.refl _ _) hf hr
theorem ss_one (h : SSt X g xi W st ds) : SSs X g xi W [st] ds := pss_one h
theorem ss_cons (h : SSt X g xi W st ds) (r : SSs X g xi W sts du) : SSs X g xi W (st :: sts) (dSeq ds du) := by
  refine PSs.imp (pss_cons h r) fun D σ H h => ?_
  obtain ⟨ρ, fr, A, hf, hr, h⟩ := h
  exact sq_run hf hr h fun fr1 A1 ρ1 H1 σ1 e1 hf1 hr1 ho1 => ⟨ρ1, fr1, A1, hf1, hr1, ho1⟩
theorem s_pass : SSt X g xi W (.Pass pos) dNop := by
  refine PS.imp ps_pass fun D σ H h => ?_
  obtain ⟨ρ, fr, A, hf, hr, h⟩ := h
  exact h ρ H σ (.refl _ _) hf hr
theorem s_doc {x : Str} {j : Nat} {pos' : Pos} : SSt X g xi W (.Expr (.Constant (.str x) j pos) pos') dNop := by
  refine PS.imp ps_doc fun D σ H h => ?_
  obtain ⟨ρ, fr, A, hf, hr, h⟩ := h
  exact h ρ H σ (.refl _ _) hf hr
def dBrk : DS := fun fr A => .bk fr A
def dCnt : DS := fun fr A => .ct fr A
theorem s_brk : SSt X g xi W (.Break pos) dBrk := by
  refine PS.imp ps_break fun D σ H h => ?_
  obtain ⟨ρ, fr, A, hf, hr, h⟩ := h
  exact h ρ H σ (.refl _ _) hf hr
theorem s_cnt : SSt X g xi W (.Continue pos) dCnt := by
  refine PS.imp ps_continue fun D σ H h => ?_
  obtain ⟨ρ, fr, A, hf, hr, h⟩ := h
  exact h ρ H σ (.refl _ _) hf hr
def dExp (d : DE) : DS := fun fr A => (d fr A).st fr fun _ A1 => .nx fr A1
theorem s_exp (h : SE X g xi W e d) (hs : swapsWith e none pos.line X.env = pure false := by rfl) : SSt X g xi W (.Expr e pos) (dExp d) := by
  refine PS.imp (ps_expr h hs) fun D σ H h => ?_
  obtain ⟨ρ, fr, A, hf, hr, h⟩ := h
  exact st_run hf hr h fun z A1 ρ1 H1 v e1 hf1 hr1 rz ho1 => ho1 ρ1 H1 σ (.refl _ _) hf1 hr1
def dRet (d : DE) : DS := fun fr A => (d fr A).st fr fun z A1 => .rt z A1
theorem s_ret (h : SE X g xi W e d) : SSt X g xi W (.Return (some e) pos) (dRet d) := by
  refine PS.imp (ps_ret h) fun D σ H h => ?_
  obtain ⟨ρ, fr, A, hf, hr, h⟩ := h
  exact st_run hf hr h fun z A1 ρ1 H1 v e1 hf1 hr1 rz ho1 => ho1 ρ1 H1 v (.refl _ _) hr1 rz
def dRetN : DS := fun _ A => .rt .non A
theorem s_retN : SSt X g xi W (.Return none pos) dRetN := by
  refine PS.imp ps_retN fun D σ H h => ?_
  obtain ⟨ρ, fr, A, hf, hr, h⟩ := h
  exact h ρ H _ (.refl _ _) hr .non
def dIte (t : DT) (a b : DS) : DS := fun fr A => (t fr A).st fr fun c A1 => if c = true then a fr A1 else b fr A1
theorem s_if {c : Expr} (hc : STs X g xi W c t) (h1 : SSs X g xi W sts ds) (h2 : SSs X g xi W sts2 du) : SSt X g xi W (.If c sts sts2 pos) (dIte t ds du) := by
  refine PS.imp (ps_if hc h1 h2) fun D σ H h => ?_
  obtain ⟨ρ, fr, A, hf, hr, h⟩ := h
  refine st_run hf hr h fun z A1 ρ1 H1 v e1 hf1 hr1 rz ho1 => ?_
  subst rz
  cases z with
  | true => exact ⟨ρ1, fr, A1, hf1, hr1, ho1⟩
  | false => exact ⟨ρ1, fr, A1, hf1, hr1, ho1⟩
def dSet (i : Nat) (d : DE) : DS := fun fr A => (d fr A).st fr fun z A1 => .nx (fr.set i (.va z)) A1
theorem s_set (i : Nat) {x : Str} {pos' : Pos} (nd : X.N.Nodup) (he : SE X g xi W e d) (hi : X.N[i]? = some x := by rfl) (hx : Loc X.env.scope x := by first | exact Or.inl rfl | exact Or.inr rfl) (hs : swapsWith e (some (.Name x pos')) pos.line X.env = pure false := by rfl)
    (hf : X.fn x = true ∨ X.env.scope.names.lookup x = some .local := by first | exact .inl rfl | exact .inr rfl) : SSt X g xi W (.Assign [.Name x pos'] e pos) (dSet i d) := by
  refine PS.imp (ps_set nd hi hx he hs hf) fun D σ H h => ?_
  obtain ⟨ρ, fr, A, hf, hr, h⟩ := h
  exact st_run hf hr h fun z A1 ρ1 H1 v e1 hf1 hr1 rz ho1 => ho1 ρ1 H1 _ (.refl _ _) (hf1.set i (.va rz)) hr1

/-! ### targets -/
abbrev DG := Z → Fr → ZH → RS
def OutG (g : G) (xi : XI) (W : WX) (ρ : List Addr) (H : Hp) (Q : St → Hp → Prop) : RS → Prop
  | .nx fr' A' => ∀ ρ' H' σ', Ext ρ H ρ' H' → RFr g xi ρ' H' fr' σ' → RH g ρ' A' H' → Q σ' H'
  | .ex x fr' A' => ∀ ρ' H' σ' cl d, Ext ρ H ρ' H' → RFr g xi ρ' H' fr' σ' → RH g ρ' A' H' → RX g ρ' H' x.1 x.2 cl d → W cl d σ' H'
  | _ => False
theorem OutG.ext {ρ ρ1 : List Addr} {H H1 : Hp} {Q : St → Hp → Prop} (e : Ext ρ H ρ1 H1) {r : RS} (h : OutG g xi W ρ H Q r) : OutG g xi W ρ1 H1 Q r := by
  cases r with
  | nx fr A => exact fun ρ' H' σ' e' => h ρ' H' σ' (e.trans e')
  | ex x fr A => exact fun ρ' H' σ' cl d e' => h ρ' H' σ' cl d (e.trans e')
  | _ => exact h
def SG (X : Cx) (g : G) (xi : XI) (W : WX) (tg : Expr) (d : DG) : Prop := ∀ (pins : List (Addr × Obj)) (s : Shared) (σ : St) (H : Hp) (v : V) (u : Value) (Q : St → Hp → Prop) (ρ : List Addr) (fr : Fr) (A : ZH) (z : Z), Inv X pins σ H s → RelV v u →
  RFr g xi ρ H fr σ → RH g ρ A H → RZ g ρ H z v → OutG g xi W ρ H Q (d z fr A) → wpAny (model X.prog X.w) X.A (assign tg X.env u) (fun _ s' => ∃ σ' H', Inv X pins σ' H' s' ∧ Q σ' H') X.xe s
/-- .. as the layer has it -/
def rdG (g : G) (xi : XI) (W : WX) (d : DG) : TG := fun v σ H Q => ∃ ρ fr A z, RFr g xi ρ H fr σ ∧ RH g ρ A H ∧ RZ g ρ H z v ∧ OutG g xi W ρ H Q (d z fr A)
def SGt (X : Cx) (g : G) (xi : XI) (W : WX) (tg : Expr) (d : DG) : Prop := PG X tg (rdG g xi W d)
theorem PG.imp {tg : Expr} {t u : TG} (h : PG X tg t) (k : ∀ v σ H Q, u v σ H Q → t v σ H Q) : PG X tg u := ⟨fun pins s σ H v w Q I r hu => h.run pins s σ H v w Q I r (k v σ H Q hu)⟩
def gNm (i : Nat) : DG := fun z fr A => .nx (fr.set i (.va z)) A
theorem g_name (i : Nat) {x : Str} (nd : X.N.Nodup) (hi : X.N[i]? = some x := by rfl) (hx : Loc X.env.scope x := by first | exact Or.inl rfl | exact Or.inr rfl) (hf : X.fn x = true ∨ X.env.scope.names.lookup x = some .local := by first | exact .inl rfl | exact .inr rfl) : SGt X g xi W (.Name x pos) (gNm i) := by
  refine PG.imp (pg_name nd hi hx hf) fun v σ H Q h => ?_
  obtain ⟨ρ, fr, A, z, hf, hr, rz, h⟩ := h
  exact h ρ H _ (.refl _ _) (hf.set i (.va rz)) hr
/-- several -/
abbrev DGs := List Z → Fr → ZH → RS
def rdGs (g : G) (xi : XI) (W : WX) (d : DGs) : TGs := fun vs σ H Q => ∃ ρ fr A zs, RFr g xi ρ H fr σ ∧ RH g ρ A H ∧ RZs g ρ H zs vs ∧ OutG g xi W ρ H Q (d zs fr A)
def SGs (X : Cx) (g : G) (xi : XI) (W : WX) (tgs : List Expr) (d : DGs) : Prop := PGs X tgs (rdGs g xi W d)
theorem PGs.imp {tgs : List Expr} {t u : TGs} (h : PGs X tgs t) (k : ∀ v σ H Q, u v σ H Q → t v σ H Q) : PGs X tgs u := ⟨fun pins s σ H v w Q I r hu => h.run pins s σ H v w Q I r (k v σ H Q hu)⟩
def gNo : DGs := fun zs fr A => match zs with
  | [] => .nx fr A
  | _ => .no
def gCo (d : DG) (r : DGs) : DGs := fun zs fr A => match zs with
  | z :: zs => (d z fr A).sq (r zs)
  | [] => .no
theorem g_nil : SGs X g xi W [] gNo := by
  refine PGs.imp pgs_nil fun v σ H Q h => ?_
  obtain ⟨ρ, fr, A, zs, hf, hr, rz, h⟩ := h
  cases rz with
  | nil => exact ⟨rfl, h ρ H σ (.refl _ _) hf hr⟩
  | cons _ _ => exact h.elim
theorem g_cons {tg : Expr} {tgs : List Expr} {dg : DG} {dr : DGs} (h1 : SGt X g xi W tg dg) (h2 : SGs X g xi W tgs dr) (hs : (assignEach (tg :: tgs) X.env).map (·.2) = assign tg X.env :: (assignEach tgs X.env).map (·.2) := by rfl) : SGs X g xi W (tg :: tgs) (gCo dg dr) := by
  refine PGs.imp (pgs_cons h1 h2 hs) fun v σ H Q h => ?_
  obtain ⟨ρ, fr, A, zs, hf, hr, rz, h⟩ := h
  cases rz with
  | nil => exact h.elim
  | @cons z v zs vs r t =>
    refine ⟨v, vs, rfl, ρ, fr, A, z, hf, hr, r, ?_⟩
    have h : OutG g xi W ρ H Q ((dg z fr A).sq (dr zs)) := h
    cases q : dg z fr A with
    | nx fr1 A1 =>
      rw [q] at h
      exact fun ρ' H' σ' e' hf' hr' => ⟨ρ', fr1, A1, zs, hf', hr', t.mono e', OutG.ext e' h⟩
    | ex x fr1 A1 => rw [q] at h; exact h
    | rt _ _ => rw [q] at h; exact h.elim
    | bk _ _ => rw [q] at h; exact h.elim
    | ct _ _ => rw [q] at h; exact h.elim
    | no => rw [q] at h; exact h.elim
def gTu (n : Nat) (d : DGs) : DG := fun z fr A => match z with
  | .tup zs => if zs.length = n then d zs fr A else .no
  | _ => .no
theorem g_tup {tgs : List Expr} {kk n : Nat} {dr : DGs} (hc : X.calm = true) (h : SGs X g xi W tgs dr) (hK : X.K = g.K := by rfl) (hn : (assignEach tgs X.env).length = n := by rfl) (hst : (assignEach tgs X.env).findIdx? (·.1) = none := by rfl) : SGt X g xi W (.Tuple tgs kk pos) (gTu n dr) := by
  refine PG.imp (pg_tup hc h hn hst) fun v σ H Q h => ?_
  obtain ⟨ρ, fr, A, z, hf, hr, rz, h⟩ := h
  cases rz with
  | @tup zs vs ad r t =>
    have h : OutG g xi W ρ H Q (if zs.length = n then dr zs fr A else .no) := h
    by_cases hl : zs.length = n
    · rw [if_pos hl] at h
      rw [hK]
      exact ⟨ad, vs, rfl, t.sq, by rw [← r.length]; exact hl, ρ, fr, A, zs, hf, hr, r, h⟩
    · rw [if_neg hl] at h
      exact h.elim
  | _ => exact h.elim
/-- o[i] = v, by values -/
def SetZ (g : G) (r : TSet) (f : Z → Z → Z → ZH → Option ZH) : Prop := ∀ (ρ : List Addr) (A : ZH) (H : Hp) (o i v : Z) (ov iv vv : V) (Q : Hp → Prop), RH g ρ A H → RZ g ρ H o ov → RZ g ρ H i iv → RZ g ρ H v vv →
  ∀ A', f o i v A = some A' → (∀ H', Ext ρ H ρ H' → RH g ρ A' H' → Q H') → r ov iv vv H Q
def gSb (f : Z → Z → Z → ZH → Option ZH) (dO dI : DE) : DG := fun z fr A => (dO fr A).st fr fun o A1 => (dI fr A1).st fr fun i A2 => match f o i z A2 with
  | some A3 => .nx fr A3
  | none => .no
theorem stG_run {σ : St} {ρ : List Addr} {H : Hp} {fr : Fr} {A : ZH} {Q : St → Hp → Prop} {k : Z → ZH → RS} (hf : RFr g xi ρ H fr σ) (hr : RH g ρ A H) (h : OutG g xi W ρ H Q ((d fr A).st fr k))
    {K : V → Hp → Prop} (hk : ∀ z A1 ρ1 H1 v, Ext ρ H ρ1 H1 → RFr g xi ρ1 H1 fr σ → RH g ρ1 A1 H1 → RZ g ρ1 H1 z v → OutG g xi W ρ1 H1 Q (k z A1) → K v H1) : rd g xi W (relZ g) d σ H K := by
  refine ⟨ρ, fr, A, hf, hr, ?_⟩
  cases e : d fr A with
  | ok a A1 =>
    intro ρ' H' b e' r' rel
    refine hk a A1 ρ' H' b e' (hf.mono e') r' rel ?_
    rw [e] at h
    exact OutG.ext e' h
  | ex x A1 =>
    rw [e] at h
    intro ρ' H' cl dd e' r' rx
    exact h ρ' H' σ cl dd e' (hf.mono e') r' rx
  | no =>
    rw [e] at h
    exact h
theorem g_sub {i : Expr} {dI : DE} {r : TSet} {f : Z → Z → Z → ZH → Option ZH} (hs : PSet X r) (hz : SetZ g r f) (ho : SE X g xi W o dO) (hi : SE X g xi W i dI)
    (hev : ∀ v, assign (.Subscript o i pos) X.env v = (do
      let tgt ← holding [v] (eval o X.env)
      let idx ← holding [v, tgt] (eval i X.env)
      standAt pos
      holding [v, tgt, idx] (setItem tgt idx v)
      release [v, tgt, idx] []) := by intro _; rfl) : SGt X g xi W (.Subscript o i pos) (gSb f dO dI) := by
  refine PG.imp (pg_sub ho hi hs hev) fun v σ H Q h => ?_
  obtain ⟨ρ, fr, A, z, hf, hr, rz, h⟩ := h
  refine stG_run hf hr h fun zo A1 ρ1 H1 vo e1 hf1 hr1 ro ho1 => ?_
  refine stG_run hf1 hr1 ho1 fun zi A2 ρ2 H2 vi e2 hf2 hr2 ri ho2 => ?_
  cases q : f zo zi z A2 with
  | none => rw [q] at ho2; exact ho2.elim
  | some A3 =>
    rw [q] at ho2
    exact hz ρ2 A2 H2 zo zi z vo vi v _ hr2 (ro.mono e2) ri (rz.mono (e1.trans e2)) A3 q fun H' e' r' => ho2 ρ2 H' σ e' (hf2.mono e') r'
def dAsg (d : DE) (dg : DG) : DS := fun fr A => (d fr A).st fr fun z A1 => dg z fr A1
/-- target = e: what a target leaves is what comes behind -/
theorem s_asg {tg : Expr} {dg : DG} (he : SE X g xi W e d) (hg : SGt X g xi W tg dg) (hd : ∀ z fr A, (∃ fr' A', dg z fr A = .nx fr' A') ∨ (∃ x fr' A', dg z fr A = .ex x fr' A') ∨ dg z fr A = .no) (hs : swapsWithSole [tg] e pos.line X.env = pure false := by rfl) (hw : swappedStores [tg] e X.env = pure none := by rfl)
    (h1 : (assignEach [tg] X.env).map (·.2) = [assign tg X.env] := by rfl) : SSt X g xi W (.Assign [tg] e pos) (dAsg d dg) := by
  refine PS.imp (ps_asg he hg hs hw h1) fun D σ H h => ?_
  obtain ⟨ρ, fr, A, hf, hr, h⟩ := h
  refine st_run hf hr h fun z A1 ρ1 H1 v e1 hf1 hr1 rz ho1 => ?_
  refine ⟨ρ1, fr, A1, z, hf1, hr1, rz, ?_⟩
  rcases hd z fr A1 with ⟨fr', A', q⟩ | ⟨x, fr', A', q⟩ | q <;> (rw [q] at ho1 ⊢; exact ho1)
end
end Zed

/-! Zed 7: loops, comprehensions, what they walk. -/
namespace Zed
open PySem PyProof.Rows L2

/-- a loop's turn: nx, ct: on; bk: behind it -/
def RS.lp (r : RS) (k : Fr → ZH → RS) : RS := match r with
  | .nx fr A => k fr A
  | .ct fr A => k fr A
  | .bk fr A => .nx fr A
  | r => r
@[simp] theorem RS.lp_nx (fr : Fr) (A : ZH) (k : Fr → ZH → RS) : (RS.nx fr A).lp k = k fr A := rfl
@[simp] theorem RS.lp_ct (fr : Fr) (A : ZH) (k : Fr → ZH → RS) : (RS.ct fr A).lp k = k fr A := rfl
@[simp] theorem RS.lp_bk (fr : Fr) (A : ZH) (k : Fr → ZH → RS) : (RS.bk fr A).lp k = .nx fr A := rfl
@[simp] theorem RS.lp_rt (z : Z) (A : ZH) (k : Fr → ZH → RS) : (RS.rt z A).lp k = .rt z A := rfl
@[simp] theorem RS.lp_ex (x : ZX) (fr : Fr) (A : ZH) (k : Fr → ZH → RS) : (RS.ex x fr A).lp k = .ex x fr A := rfl
@[simp] theorem RS.lp_no (k : Fr → ZH → RS) : (RS.no).lp k = .no := rfl

/-- while -/
def dWhl (t : DT) (b : DS) : Nat → DS
  | 0 => fun _ _ => .no
  | n + 1 => fun fr A => (t fr A).st fr fun c A1 => if c = true then (b fr A1).lp (dWhl t b n) else .nx fr A1
/-- what a loop walks: its item at a turn (none: it can't be told), or its end -/
abbrev Nx := Nat → ZH → Option (Option Z)
abbrev DI := Fr → ZH → R Nx
def dLoop (nx : Nx) (dg : DG) (b : DS) : Nat → Nat → Fr → ZH → RS
  | 0, _, _, _ => .no
  | n + 1, i, fr, A => match nx i A with
    | none => .no
    | some none => .nx fr A
    | some (some z) => (dg z fr A).sq fun fr1 A1 => (b fr1 A1).lp (dLoop nx dg b n (i + 1))
def dFor (n : Nat) (src : DI) (dg : DG) (b : DS) : DS := fun fr A => (src fr A).st fr fun nx A1 => dLoop nx dg b n 0 fr A1

section
variable {X : Cx} {g : G} {xi : XI} {W : WX} {e o a b : Expr} {es : List Expr} {d da db dO : DE} {pos : Pos} {st : Stmt} {sts sts2 : List Stmt} {ds du : DS} {t : DT}

theorem lp_out {ρ : List Addr} {H : Hp} {D : Ends} {r : RS} {k : Fr → ZH → RS} (h : OutS g xi W ρ H D (r.lp k)) {N : St → Hp → Prop} (hN : ∀ ρ' H' σ' fr' A', Ext ρ H ρ' H' → RFr g xi ρ' H' fr' σ' → RH g ρ' A' H' → OutS g xi W ρ' H' D (k fr' A') → N σ' H') :
    OutS g xi W ρ H { D with nx := N, ct := N, bk := D.nx } r := by
  cases r with
  | nx fr A => exact fun ρ' H' σ' e' f' r' => hN ρ' H' σ' fr A e' f' r' (OutS.ext e' h)
  | ct fr A => exact fun ρ' H' σ' e' f' r' => hN ρ' H' σ' fr A e' f' r' (OutS.ext e' h)
  | bk fr A => exact h
  | rt z A => exact h
  | ex x fr A => exact h
  | no => exact h
theorem s_while (n : Nat) {c : Expr} (hp : PassesOwn (model X.prog X.w) X.A X.env X.xe) (hc : STs X g xi W c t) (hb : SSs X g xi W sts ds) : SSt X g xi W (.While c sts [] pos) (dWhl t ds n) := by
  refine PS.imp (ps_while hp hc hb) fun D σ H h => ?_
  refine ⟨fun m σ H => ∃ ρ fr A, RFr g xi ρ H fr σ ∧ RH g ρ A H ∧ OutS g xi W ρ H D (dWhl t ds m fr A), ⟨n, h⟩, ?_⟩
  rintro m σ H ⟨ρ, fr, A, hf, hr, h⟩
  cases m with
  | zero => exact h.elim
  | succ m =>
    refine st_run hf hr h fun z A1 ρ1 H1 v e1 hf1 hr1 rz ho1 => ?_
    subst rz
    cases z with
    | false => exact ho1 ρ1 H1 σ (.refl _ _) hf1 hr1
    | true =>
      refine ⟨fun σ' H' => ∃ ρ fr A, RFr g xi ρ H' fr σ' ∧ RH g ρ A H' ∧ OutS g xi W ρ H' D (dWhl t ds m fr A), fun σ' H' h => ⟨m, Nat.lt_succ_self _, h⟩, ?_⟩
      exact ⟨ρ1, fr, A1, hf1, hr1, lp_out ho1 fun ρ' H' σ' fr' A' _ f' r' o' => ⟨ρ', fr', A', f', r', o'⟩⟩

/-! ### what is walked -/
def JOk (g : G) (J : It) (nx : Nx) (ρ : List Addr) (H : Hp) : Prop := ∀ ρ2 H2 A2, Ext ρ H ρ2 H2 → RH g ρ2 A2 H2 → ∀ i,
  (nx i A2 = some none → J.stop i H2) ∧ ∀ z, nx i A2 = some (some z) → J.go i H2 ∧ ∀ v H3, J.yld i H2 v H3 → Ext ρ2 H2 ρ2 H3 ∧ RH g ρ2 A2 H3 ∧ RZ g ρ2 H3 z v
def rdI (g : G) (xi : XI) (W : WX) (src : DI) : TI := fun σ H R => ∃ ρ fr A, RFr g xi ρ H fr σ ∧ RH g ρ A H ∧ match src fr A with
  | .ok nx A1 => ∀ ρ1 H1 J, Ext ρ H ρ1 H1 → RH g ρ1 A1 H1 → JOk g J nx ρ1 H1 → R J H1
  | .ex x A1 => ∀ ρ' H' cl d, Ext ρ H ρ' H' → RH g ρ' A1 H' → RX g ρ' H' x.1 x.2 cl d → W cl d σ H'
  | .no => False
def SI (X : Cx) (g : G) (xi : XI) (W : WX) (tg iter : Expr) (src : DI) : Prop := PI X tg iter (rdI g xi W src)
theorem PI.imp {tg iter : Expr} {t u : TI} (h : PI X tg iter t) (k : ∀ σ H R, u σ H R → t σ H R) : PI X tg iter u := ⟨fun pins s σ H R I hu => h.run pins s σ H R I (k σ H R hu)⟩
theorem PI.some {ι : Type} {tg iter : Expr} {t : ι → TI} (h : ∀ i, PI X tg iter (t i)) : PI X tg iter (fun σ H R => ∃ i, t i σ H R) := ⟨fun pins s σ H R I ⟨i, q⟩ => (h i).run pins s σ H R I q⟩
/-- a target's end is nx, an exception or none -/
def DGok (dg : DG) : Prop := ∀ z fr A, (∃ fr' A', dg z fr A = .nx fr' A') ∨ (∃ x fr' A', dg z fr A = .ex x fr' A') ∨ dg z fr A = .no
theorem DGok.name (i : Nat) : DGok (gNm i) := fun _ _ _ => .inl ⟨_, _, rfl⟩
def DGsok (dg : DGs) : Prop := ∀ z fr A, (∃ fr' A', dg z fr A = .nx fr' A') ∨ (∃ x fr' A', dg z fr A = .ex x fr' A') ∨ dg z fr A = .no
theorem DGsok.nil : DGsok gNo := fun zs fr A => by
  cases zs with
  | nil => exact .inl ⟨_, _, rfl⟩
  | cons _ _ => exact .inr (.inr rfl)
theorem DGsok.cons {dg : DG} {dr : DGs} (h : DGok dg) (h2 : DGsok dr) : DGsok (gCo dg dr) := fun zs fr A => by
  cases zs with
  | nil => exact .inr (.inr rfl)
  | cons z zs =>
    show (∃ fr' A', (dg z fr A).sq (dr zs) = .nx fr' A') ∨ (∃ x fr' A', (dg z fr A).sq (dr zs) = .ex x fr' A') ∨ (dg z fr A).sq (dr zs) = .no
    rcases h z fr A with ⟨fr', A', q⟩ | ⟨x, fr', A', q⟩ | q
    · rw [q]; exact h2 zs fr' A'
    · rw [q]; exact .inr (.inl ⟨_, _, _, rfl⟩)
    · rw [q]; exact .inr (.inr rfl)
theorem DGok.tup {n : Nat} {dr : DGs} (h : DGsok dr) : DGok (gTu n dr) := fun z fr A => by
  cases z with
  | tup zs =>
    show (∃ fr' A', (if zs.length = n then dr zs fr A else .no) = .nx fr' A') ∨ _
    by_cases hl : zs.length = n
    · have q : gTu n dr (.tup zs) fr A = dr zs fr A := if_pos hl
      rw [q, if_pos hl]; exact h zs fr A
    · exact .inr (.inr (if_neg hl))
  | _ => exact .inr (.inr rfl)
theorem DGok.sub {f : Z → Z → Z → ZH → Option ZH} {dI : DE} : DGok (gSb f dO dI) := fun z fr A => by
  unfold gSb
  cases dO fr A with
  | ok o A1 =>
    rw [R.st_ok]
    cases dI fr A1 with
    | ok i A2 =>
      rw [R.st_ok]
      cases f o i z A2 with
      | none => exact .inr (.inr rfl)
      | some A3 => exact .inl ⟨_, _, rfl⟩
    | ex x A2 => exact .inr (.inl ⟨_, _, _, rfl⟩)
    | no => exact .inr (.inr rfl)
  | ex x A2 => exact .inr (.inl ⟨_, _, _, rfl⟩)
  | no => exact .inr (.inr rfl)
theorem s_for (n : Nat) {tg iter : Expr} {src : DI} {dg : DG} (hp : PassesOwn (model X.prog X.w) X.A X.env X.xe) (hc : X.calm = true) (hi : SI X g xi W tg iter src) (hg : SGt X g xi W tg dg) (hd : DGok dg) (hb : SSs X g xi W sts ds)
    (hs : ∀ x, foldedSetIterable iter X.env x = pure x := by intro _; rfl) : SSt X g xi W (.For tg iter sts [] pos) (dFor n src dg ds) := by
  refine PS.imp (ps_for hp hc hi hg hb hs) fun D σ H h => ?_
  obtain ⟨ρ, fr, A, hf, hr, h⟩ := h
  refine ⟨ρ, fr, A, hf, hr, ?_⟩
  unfold dFor at h
  cases q : src fr A with
  | no => rw [q] at h; exact h.elim
  | ex x A1 =>
    rw [q] at h
    exact fun ρ' H' cl dd e' r' rx => h ρ' H' σ cl dd e' (hf.mono e') r' rx
  | ok nx A1 =>
    rw [q, R.st_ok] at h
    intro ρ1 H1 J e1 r1 jok
    refine ⟨fun i m σ' H' => ∃ ρ2 fr2 A2, Ext ρ1 H1 ρ2 H' ∧ RFr g xi ρ2 H' fr2 σ' ∧ RH g ρ2 A2 H' ∧ OutS g xi W ρ2 H' D (dLoop nx dg ds m i fr2 A2), ⟨n, ρ1, fr, A1, .refl _ _, hf.mono e1, r1, OutS.ext e1 h⟩, ?_⟩
    rintro i m σ2 H2 ⟨ρ2, fr2, A2, e2, f2, r2, o2⟩
    obtain ⟨j1, j2⟩ := jok ρ2 H2 A2 e2 r2 i
    cases m with
    | zero => exact o2.elim
    | succ m =>
      unfold dLoop at o2
      cases qn : nx i A2 with
      | none => rw [qn] at o2; exact o2.elim
      | some oz =>
        rw [qn] at o2
        cases oz with
        | none => exact .inl ⟨j1 qn, o2 ρ2 H2 σ2 (.refl _ _) f2 r2⟩
        | some z =>
          obtain ⟨go, yl⟩ := j2 z qn
          refine .inr ⟨go, fun σ' H' => ∃ ρ3 fr3 A3, Ext ρ1 H1 ρ3 H' ∧ RFr g xi ρ3 H' fr3 σ' ∧ RH g ρ3 A3 H' ∧ OutS g xi W ρ3 H' D (dLoop nx dg ds m (i + 1) fr3 A3), fun σ' H' w => ⟨m, Nat.lt_succ_self _, w⟩, fun v H3 hy => ?_⟩
          obtain ⟨e3, r3, rz⟩ := yl v H3 hy
          refine ⟨ρ2, fr2, A2, z, f2.mono e3, r3, rz, ?_⟩
          have o3 := OutS.ext e3 o2
          dsimp only at o3
          rcases hd z fr2 A2 with ⟨fr4, A4, q4⟩ | ⟨x, fr4, A4, q4⟩ | q4
          · rw [q4] at o3 ⊢
            intro ρ4 H4 σ4 e4 f4 r4
            exact ⟨ρ4, fr4, A4, f4, r4, lp_out (OutS.ext e4 o3) fun ρ' H' σ' fr' A' e' f' r' o' => ⟨ρ', fr', A', ((e2.trans e3).trans e4).trans e', f', r', o'⟩⟩
          · rw [q4] at o3 ⊢
            exact o3
          · rw [q4] at o3
            exact o3.elim

/-! ### sources -/
/-- a value that is walked: a tuple, a text, a list -/
def nxS (zs : List Z) : Nx := fun i _ => some zs[i]?
def nxL (n : Nat) : Nx := fun i A => match A.get n with
  | some (.lst zs) => some zs[i]?
  | _ => none
def signsZ (s : Str) : List Z := s.cps.toList.map fun c => Z.str ⟨#[c]⟩
def iVal (d : DE) : DI := fun fr A => (d fr A).bd fun z A1 => match z with
  | .tup zs => .ok (nxS zs) A1
  | .lit zs => .ok (nxS zs) A1
  | .str s => .ok (nxS (signsZ s)) A1
  | .ref n => match A1.get n with
    | some (.lst _) => .ok (nxL n) A1
    | _ => .no
  | _ => .no
theorem jok_list {ρ : List Addr} {A : ZH} {H : Hp} {n : Nat} {a : Addr} (ha : ρ[n]? = some a) : JOk g (Itl g.K a) (nxL n) ρ H := by
  intro ρ2 H2 A2 e2 r2 i
  have ha2 := e2.get ha
  constructor
  · intro h
    unfold nxL at h
    cases q : A2.get n with
    | none => rw [q] at h; cases h
    | some ob =>
      rw [q] at h
      cases ob with
      | lst zs =>
        obtain ⟨vs, h1, h2⟩ := r2.lst ha2 q
        have hl : zs[i]? = none := Option.some.inj h
        exact ⟨vs, SqL.of h1, by rw [← h2.length]; exact List.getElem?_eq_none_iff.mp hl⟩
      | _ => cases h
  · intro z h
    unfold nxL at h
    cases q : A2.get n with
    | none => rw [q] at h; cases h
    | some ob =>
      rw [q] at h
      cases ob with
      | lst zs =>
        obtain ⟨vs, h1, h2⟩ := r2.lst ha2 q
        have hz : zs[i]? = some z := Option.some.inj h
        obtain ⟨v0, h3, h4⟩ := h2.get hz
        refine ⟨⟨vs, v0, SqL.of h1, h3⟩, fun v H3 hy => ?_⟩
        obtain ⟨eH, hy⟩ := hy
        subst eH
        have hv := hy vs (SqL.of h1)
        rw [h3] at hv
        cases hv
        exact ⟨.refl _ _, r2, h4⟩
      | _ => cases h
theorem jok_lit {ρ : List Addr} {H : Hp} {a : Addr} {zs : List Z} {vs : List V} (r : RZs g ρ H zs vs) (h : LitAt g.K H a vs) : JOk g (Itl g.K a) (nxS zs) ρ H := by
  intro ρ2 H2 A2 e2 r2 i
  have t2 := (e2.ex0.litAt (K := g.K) h).sq
  constructor
  · intro q
    have hl : zs[i]? = none := Option.some.inj q
    exact ⟨vs, t2, by rw [← r.length]; exact List.getElem?_eq_none_iff.mp hl⟩
  · intro z q
    have hz : zs[i]? = some z := Option.some.inj q
    obtain ⟨v0, h3, h4⟩ := r.get hz
    refine ⟨⟨vs, v0, t2, h3⟩, fun v H3 hy => ?_⟩
    obtain ⟨eH, hy⟩ := hy
    subst eH
    have hv := hy vs t2
    rw [h3] at hv
    cases hv
    exact ⟨.refl _ _, r2, h4.mono e2⟩
theorem jok_tup {ρ : List Addr} {H : Hp} {a : Addr} {zs : List Z} {vs : List V} (r : RZs g ρ H zs vs) (h : TupAt g.K H a vs) : JOk g (Itt g.K a) (nxS zs) ρ H := by
  intro ρ2 H2 A2 e2 r2 i
  have t2 := (e2.tup (g := g) h).sq
  constructor
  · intro q
    have hl : zs[i]? = none := Option.some.inj q
    exact ⟨vs, t2, by rw [← r.length]; exact List.getElem?_eq_none_iff.mp hl⟩
  · intro z q
    have hz : zs[i]? = some z := Option.some.inj q
    obtain ⟨v0, h3, h4⟩ := r.get hz
    refine ⟨⟨vs, v0, t2, h3⟩, fun v H3 hy => ?_⟩
    obtain ⟨eH, hy⟩ := hy
    subst eH
    have hv := hy vs t2
    rw [h3] at hv
    cases hv
    exact ⟨.refl _ _, r2, h4.mono e2⟩
theorem jok_str {ρ : List Addr} {H : Hp} {s : Str} : JOk g (Its s) (nxS (signsZ s)) ρ H := by
  intro ρ2 H2 A2 e2 r2 i
  constructor
  · intro q
    have hl : (signsZ s)[i]? = none := Option.some.inj q
    have z := List.getElem?_eq_none_iff.mp hl
    unfold signsZ at z
    rw [List.length_map, Array.length_toList] at z
    exact z
  · intro z q
    have hz : (signsZ s)[i]? = some z := Option.some.inj q
    unfold signsZ at hz
    rw [List.getElem?_map] at hz
    cases q2 : s.cps.toList[i]? with
    | none => rw [q2] at hz; cases hz
    | some c =>
      rw [q2] at hz
      cases hz
      rw [Array.getElem?_toList] at q2
      refine ⟨(Array.getElem?_eq_some_iff.mp q2).1, fun v H3 hy => ?_⟩
      obtain ⟨eH, c', hc', ev⟩ := hy
      subst eH ev
      rw [q2] at hc'
      cases hc'
      exact ⟨.refl _ _, r2, .str _⟩
theorem i_val {tg : Expr} (h : SE X g xi W e d) (hK : X.K = g.K := by rfl) : SI X g xi W tg e (iVal d) := by
  refine PI.imp (PI.some (ι := Fin 3) (t := fun i => if i = 0 then iList X.K (rd g xi W (relZ g) d) else if i = 1 then iTup X.K (rd g xi W (relZ g) d) else iStr (rd g xi W (relZ g) d)) fun i => ?_) fun σ H R h => ?_
  · match i with
    | 0 => exact pi_list h
    | 1 => exact pi_tup h
    | 2 => exact pi_str h
  · obtain ⟨ρ, fr, A, hf, hr, h⟩ := h
    unfold iVal at h
    rw [hK]
    cases q : d fr A with
    | no => rw [q] at h; exact h.elim
    | ex x A1 =>
      rw [q] at h
      refine ⟨0, ?_⟩
      rw [if_pos rfl]
      refine ⟨ρ, fr, A, hf, hr, ?_⟩
      rw [q]
      exact h
    | ok z A1 =>
      rw [q, Zed.R.bd_ok] at h
      cases z with
      | tup zs =>
        refine ⟨1, ?_⟩
        rw [if_neg (by decide), if_pos rfl]
        refine ⟨ρ, fr, A, hf, hr, ?_⟩
        rw [q]
        intro ρ' H' v e' r' rv
        cases rv with
        | @tup _ vs ad r t => exact ⟨ad, rfl, ⟨vs, t.sq⟩, h ρ' H' _ e' r' (jok_tup r t)⟩
      | lit zs =>
        refine ⟨0, ?_⟩
        rw [if_pos rfl]
        refine ⟨ρ, fr, A, hf, hr, ?_⟩
        rw [q]
        intro ρ' H' v e' r' rv
        cases rv with
        | @lit _ vs ad r t => exact ⟨ad, rfl, ⟨vs, t.sq⟩, h ρ' H' _ e' r' (jok_lit r t)⟩
      | str s =>
        refine ⟨2, ?_⟩
        rw [if_neg (by decide), if_neg (by decide)]
        refine ⟨ρ, fr, A, hf, hr, ?_⟩
        rw [q]
        intro ρ' H' v e' r' rv
        cases rv
        exact ⟨s, rfl, h ρ' H' _ e' r' jok_str⟩
      | ref n =>
        refine ⟨0, ?_⟩
        rw [if_pos rfl]
        refine ⟨ρ, fr, A, hf, hr, ?_⟩
        rw [q]
        intro ρ' H' v e' r' rv
        cases rv with
        | @ref _ ad ha =>
          dsimp only at h
          cases q2 : A1.get n with
          | none => rw [q2] at h; exact h.elim
          | some ob =>
            rw [q2] at h
            cases ob with
            | lst zs =>
              obtain ⟨vs, h1, h2⟩ := r'.lst ha q2
              exact ⟨ad, rfl, ⟨vs, SqL.of h1⟩, h ρ' H' _ e' r' (jok_list (A := A1) ha)⟩
            | _ => exact h.elim
      | _ => exact h.elim

/-! ### range -/
def lim62 (i : Int) : Bool := decide (-(2 ^ 62) ≤ i) && decide (i < 2 ^ 62)
def rgZ (a : Int) (n : Nat) : List Z := (List.range n).map fun k => Z.int (a + (k : Nat))
def nxR (a : Int) (n : Nat) : Nx := fun i _ => if i < n then some (some (.int (a + (i : Nat)))) else some none
def iRg1 (d : DE) : DI := fun fr A => (d fr A).bd fun z A1 => match z with
  | .int j => if lim62 j then .ok (nxR 0 j.toNat) A1 else .no
  | _ => .no
def iRg2 (da db : DE) : DI := fun fr A => (da fr A).bd fun x A1 => (db fr A1).bd fun y A2 => match x, y with
  | .int i, .int j => if lim62 i && lim62 j then .ok (nxR i (j - i).toNat) A2 else .no
  | _, _ => .no
theorem jok_range {ρ : List Addr} {H : Hp} {lo : Int} {n : Nat} : JOk g (Itr lo n) (nxR lo n) ρ H := by
  intro ρ2 H2 A2 e2 r2 i
  unfold nxR
  constructor
  · intro q
    by_cases hi : i < n
    · rw [if_pos hi] at q; cases q
    · exact Nat.le_of_not_lt hi
  · intro z q
    by_cases hi : i < n
    · rw [if_pos hi] at q
      cases q
      refine ⟨hi, fun v H3 hy => ?_⟩
      obtain ⟨eH, ev⟩ := hy
      subst eH ev
      exact ⟨.refl _ _, r2, .int _⟩
    · rw [if_neg hi] at q; cases q
theorem lim62_ok {i : Int} (h : lim62 i = true) : -(2 ^ 62) ≤ i ∧ i < 2 ^ 62 := by
  unfold lim62 at h
  rw [Bool.and_eq_true] at h
  exact ⟨of_decide_eq_true h.1, of_decide_eq_true h.2⟩
theorem i_range1 {tg : Expr} {p : Pos} (h : SE X g xi W e d) (hm : X.mg "range" = none) (hg : Gl X "range" := by rfl) (hs : starEach [e] X.env = [(false, eval e X.env)] := by rfl) (hs0 : starEach [e] X.env = (false, eval e X.env) :: starEach [] X.env := by rfl) : SI X g xi W tg (.Call (.Name "range" p) [e] [] pos) (iRg1 d) := by
  refine PI.imp (pi_range1 hg hm (a_cons h a_nil hs0) hs) fun σ H R h => ?_
  obtain ⟨ρ, fr, A, hf, hr, h⟩ := h
  refine ⟨ρ, fr, A, hf, hr, ?_⟩
  unfold iRg1 at h
  unfold dCons
  cases q : d fr A with
  | no => rw [q] at h; exact h.elim
  | ex x A1 => rw [q] at h; exact h
  | ok z A1 =>
    rw [q, Zed.R.bd_ok] at h
    intro ρ' H' vs e' r' rv
    cases z with
    | int j =>
      cases rv with
      | cons r t =>
        cases t
        cases r
        dsimp only at h
        by_cases hl : lim62 j = true
        · rw [if_pos hl] at h
          obtain ⟨l1, l2⟩ := lim62_ok hl
          exact ⟨j, rfl, l1, l2, h ρ' H' _ e' r' jok_range⟩
        · rw [if_neg hl] at h
          exact h.elim
    | _ => exact h.elim
theorem i_range2 {tg : Expr} {p : Pos} (ha : SE X g xi W a da) (hb : SE X g xi W b db) (hm : X.mg "range" = none) (hg : Gl X "range" := by rfl) (hs : starEach [a, b] X.env = [(false, eval a X.env), (false, eval b X.env)] := by rfl) (hs2 : starEach [b] X.env = [(false, eval b X.env)] := by rfl) (hs3 : starEach [a, b] X.env = (false, eval a X.env) :: starEach [b] X.env := by rfl) (hs4 : starEach [b] X.env = (false, eval b X.env) :: starEach [] X.env := by rfl) :
    SI X g xi W tg (.Call (.Name "range" p) [a, b] [] pos) (iRg2 da db) := by
  refine PI.imp (pi_range2 hg hm (a_cons ha (a_cons hb a_nil hs4) hs3) hs hs2) fun σ H R h => ?_
  obtain ⟨ρ, fr, A, hf, hr, h⟩ := h
  refine ⟨ρ, fr, A, hf, hr, ?_⟩
  unfold iRg2 at h
  unfold dCons
  cases q : da fr A with
  | no => rw [q] at h; exact h.elim
  | ex x A1 => rw [q] at h; exact h
  | ok z A1 =>
    rw [q, Zed.R.bd_ok] at h
    rw [Zed.R.bd_ok]
    cases q2 : db fr A1 with
    | no => rw [q2] at h; exact h.elim
    | ex x A1 => rw [q2] at h; exact h
    | ok z2 A2 =>
      rw [q2, Zed.R.bd_ok] at h
      intro ρ' H' vs e' r' rv
      cases z with
      | int i =>
        cases z2 with
        | int j =>
          cases rv with
          | cons r t =>
            cases r
            cases t with
            | cons r2 t =>
              cases r2
              cases t
              dsimp only at h
              by_cases hl : (lim62 i && lim62 j) = true
              · rw [if_pos hl] at h
                rw [Bool.and_eq_true] at hl
                obtain ⟨l1, l2⟩ := lim62_ok hl.1
                obtain ⟨l3, l4⟩ := lim62_ok hl.2
                exact ⟨i, j, rfl, ⟨l1, l2, l3, l4⟩, h ρ' H' _ e' r' jok_range⟩
              · rw [if_neg hl] at h
                exact h.elim
        | _ => exact h.elim
      | _ => exact h.elim

/-! ### comprehensions -/
/-- the block's wish about exceptions: none -/
abbrev Wn : WX := fun _ _ _ _ => False
def wipeF (fr : Fr) : List Nat → Fr
  | [] => fr
  | v :: vs => (wipeF fr vs).set v .un
theorem RFr.wipe {ρ : List Addr} {H : Hp} {fr : Fr} {σ : St} (h : RFr g xi ρ H fr σ) : ∀ vs : List Nat, RFr g xi ρ H (wipeF fr vs) (L2.wipe σ vs)
  | [] => h
  | v :: vs => (RFr.wipe h vs).set v (.un none)
theorem wipe_set {σ : St} {i : Nat} {v : Option V} : ∀ {vs : List Nat}, i ∈ vs → L2.wipe (σ.set i v) vs = L2.wipe σ vs
  | w :: vs, h => by
    show (L2.wipe (σ.set i v) vs).set w none = (L2.wipe σ vs).set w none
    by_cases e : i ∈ vs
    · rw [wipe_set e]
    · have ew : i = w := (List.mem_cons.mp h).resolve_right e
      subst ew
      have key : ∀ (us : List Nat), i ∉ us → L2.wipe (σ.set i v) us = (L2.wipe σ us).set i v := by
        intro us
        induction us with
        | nil => intro _; rfl
        | cons u us ih =>
          intro hu
          show (L2.wipe (σ.set i v) us).set u none = ((L2.wipe σ us).set u none).set i v
          rw [ih fun z => hu (List.mem_cons_of_mem _ z), List.set_comm _ _ (fun z => hu (by rw [z]; exact List.mem_cons_self))]
      rw [key vs e, List.set_set]
theorem wipe_wipe {σ : St} : ∀ (vs us : List Nat), (∀ i ∈ vs, i ∈ us) → L2.wipe (L2.wipe σ vs) us = L2.wipe σ us
  | [], _, _ => rfl
  | v :: vs, us, h => by
    show L2.wipe ((L2.wipe σ vs).set v none) us = _
    rw [wipe_set (h v List.mem_cons_self)]
    exact wipe_wipe vs us fun i hi => h i (List.mem_cons_of_mem _ hi)
/-- a comprehension's target: one slot, or a tuple of slots -/
inductive CT where
  | one (i : Nat)
  | many (is : List Nat)
def setAll : List Nat → List Z → Fr → Option Fr
  | [], [], fr => some fr
  | i :: is, z :: zs, fr => setAll is zs (fr.set i (.va z))
  | _, _, _ => none
def CT.set (c : CT) (z : Z) (fr : Fr) : Option Fr := match c with
  | .one i => some (fr.set i (.va z))
  | .many is => match z with
    | .tup zs => setAll is zs fr
    | _ => none
def CT.ix : CT → List Nat
  | .one i => [i]
  | .many is => is
def gAll : List Nat → TGs
  | [] => gNil
  | i :: is => gCons (gName i) (gAll is)
def CT.tg (K : PySem.W.Frag) : CT → TG
  | .one i => gName i
  | .many is => gTup K is.length (gAll is)
/-- .. as the block has it -/
def SCT (X : Cx) (g : G) (tg : Expr) (c : CT) : Prop := ∀ (s : Shared) (H : Hp) (scope : Scope) (cl : List (Str × Addr)) (C : Addr) (fp : List Addr), True
theorem all_run {ρ : List Addr} {H : Hp} {Q : St → Hp → Prop} {own : List Nat} : ∀ {is : List Nat} {zs : List Z} {vs : List V} {fr fr' : Fr} {σ : St}, RFr g xi ρ H fr σ → RZs g ρ H zs vs → setAll is zs fr = some fr' → (∀ i ∈ is, i ∈ own) →
    (∀ σ', RFr g xi ρ H fr' σ' → L2.wipe σ' own = L2.wipe σ own → Q σ' H) → gAll is vs σ H Q
  | [], [], _, fr, fr', σ, hf, .nil, h, ho, k => by
    cases h
    exact ⟨rfl, k σ hf rfl⟩
  | i :: is, z :: zs, _, fr, fr', σ, hf, .cons r t, h, ho, k => by
    refine ⟨_, _, rfl, all_run (hf.set i (.va r)) t h (fun j hj => ho j (List.mem_cons_of_mem _ hj)) fun σ' f' e' => k σ' f' ?_⟩
    rw [e', wipe_set (ho i List.mem_cons_self)]
  | [], _ :: _, _, _, _, _, _, _, h, _, _ => by cases h
  | _ :: _, [], _, _, _, _, _, _, h, _, _ => by cases h
theorem ct_run {c : CT} {ρ : List Addr} {H : Hp} {Q : St → Hp → Prop} {own : List Nat} {z : Z} {v : V} {fr fr' : Fr} {σ : St} (hf : RFr g xi ρ H fr σ) (r : RZ g ρ H z v) (h : c.set z fr = some fr') (ho : ∀ i ∈ c.ix, i ∈ own)
    (k : ∀ σ', RFr g xi ρ H fr' σ' → L2.wipe σ' own = L2.wipe σ own → Q σ' H) : c.tg g.K v σ H Q := by
  cases c with
  | one i =>
    cases h
    exact k _ (hf.set i (.va r)) (wipe_set (ho i (by simp [CT.ix])))
  | many is =>
    cases r with
    | @tup zs vs ad r t =>
      have h : setAll is zs fr = some fr' := h
      have hl : vs.length = is.length := by
        rw [← r.length]
        have key : ∀ (is : List Nat) (zs : List Z) (fr fr' : Fr), setAll is zs fr = some fr' → zs.length = is.length := by
          intro is
          induction is with
          | nil =>
            intro zs fr fr' h
            cases zs with
            | nil => rfl
            | cons _ _ => cases h
          | cons i is ih =>
            intro zs fr fr' h
            cases zs with
            | nil => cases h
            | cons z zs => rw [List.length_cons, List.length_cons, ih zs _ _ h]
        exact key is zs fr fr' h
      exact ⟨ad, vs, rfl, t.sq, hl, all_run hf r h ho k⟩
    | _ => cases h
/-- [te for c in src if tt]; own: the block's own slots -/
def dLcL (nx : Nx) (c : CT) (tt : DT) (te : DE) (fr : Fr) : Nat → Nat → List Z → ZH → R Z
  | 0, _, _, _ => .no
  | n + 1, i, acc, A => match nx i A with
    | none => .no
    | some none => .ok (.ref A.n) (A.push (.lst acc.reverse))
    | some (some z) => match c.set z fr with
      | none => .no
      | some fr1 => (tt fr1 A).bdn fun b A1 => if b = true then (te fr1 A1).bdn fun y A2 => if acc.length < sizeLine then dLcL nx c tt te fr n (i + 1) (y :: acc) A2 else .no else dLcL nx c tt te fr n (i + 1) acc A1
def dLc (n : Nat) (src : DI) (c : CT) (tt : DT) (te : DE) (own : List Nat) : DE := fun fr A => (src fr A).bd fun nx A1 => dLcL nx c tt te (wipeF fr own) n 0 [] A1
def dYes : DT := fun _ A => .ok true A
def STT (X : Cx) (g : G) (xi : XI) (W : WX) (ifs : List Expr) (d : DT) : Prop := PTs X ifs (rd g xi W relB d)
theorem PTs.imp {ifs : List Expr} {t u : TT} (h : PTs X ifs t) (k : ∀ σ H Q, u σ H Q → t σ H Q) : PTs X ifs u := ⟨fun pins s σ H Q I hu => h.run pins s σ H Q I (k σ H Q hu)⟩
theorem ts_nil : STT X g xi W [] dYes := by
  refine PTs.imp pts_nil fun σ H Q h => ?_
  obtain ⟨ρ, fr, A, hf, hr, h⟩ := h
  exact h ρ H _ (.refl _ _) hr rfl
theorem ts_one {c : Expr} (h : STs X g xi W c t) : STT X g xi W [c] t := pts_one h
theorem lc_run {n : Nat} {src : DI} {c : CT} {tt : DT} {te : DE} {own : List Nat} {σ : St} {H : Hp} {Q : VK} (ho : ∀ i ∈ c.ix, i ∈ own) (h : rd g xi W (relZ g) (dLc n src c tt te own) σ H Q) :
    tLc (rdI g xi W src) (c.tg g.K) (rd g xi Wn relB tt) (rd g xi Wn (relZ g) te) own σ H Q := by
  obtain ⟨ρ, fr, A, hf, hr, h⟩ := h
  refine ⟨ρ, fr, A, hf, hr, ?_⟩
  unfold dLc at h
  cases q : src fr A with
  | no => rw [q] at h; exact h.elim
  | ex x A1 => rw [q] at h; exact h
  | ok nx A1 =>
    rw [q, Zed.R.bd_ok] at h
    intro ρ1 H1 J e1 r1 jok D hD
    obtain ⟨r1', eD⟩ := upd_tup (o := .lst []) r1 hD
    have nD : D ∉ ρ1 := fun hm => by
      obtain ⟨q, e, _⟩ := r1.mem hm
      rw [hD] at e
      cases e
    have h := OutR.ext e1 h
    have hf1 := hf.mono e1
    -- seen from ahead of the new list
    have from1 : ∀ {ρ2 : List Addr} {H2 : Hp}, Ext ρ1 (upd H1 D (.lst [])) ρ2 H2 → D ∉ ρ2 → ∀ {vs : List V}, H2 D = some (.lst vs) → Ext ρ1 H1 ρ2 H2 := fun {ρ2 H2} e nd2 {vs} hd2 => eD.trans e
    refine ⟨fun i m H2 => ∃ ρ2 A2 acc vs, Ext ρ1 H1 ρ2 H2 ∧ RH g ρ2 A2 H2 ∧ D ∉ ρ2 ∧ H2 D = some (.lst vs) ∧ RZs g ρ2 H2 acc.reverse vs ∧ OutR g W σ ρ1 H1 (relZ g) Q (dLcL nx c tt te (wipeF fr own) m i acc A2), ⟨n, ρ1, A1, [], [], eD, r1', nD, upd_same, .nil, h⟩, ?_⟩
    rintro i m H2 ⟨ρ2, A2, acc, vs, e2, r2, nD2, hD2, rz, o2⟩
    obtain ⟨j1, j2⟩ := jok ρ2 H2 A2 e2 r2 i
    cases m with
    | zero => exact o2.elim
    | succ m =>
      unfold dLcL at o2
      cases qn : nx i A2 with
      | none => rw [qn] at o2; exact o2.elim
      | some oz =>
        rw [qn] at o2
        cases oz with
        | none =>
          refine .inl ⟨j1 qn, ?_⟩
          have e3 : Ex0 ρ2 H2 (ρ2 ++ [D]) H2 := ⟨fun {k a} h => by rw [List.getElem?_append_left (List.getElem?_eq_some_iff.mp h).1]; exact h, fun _ h => h⟩
          have e4 : Ext ρ1 H1 (ρ2 ++ [D]) H2 := by
            obtain ⟨t, et, nt⟩ := e2.ext
            refine ⟨⟨t ++ [D], by rw [et, List.append_assoc], fun a ha => ?_⟩, e2.keep, e2.there⟩
            rcases List.mem_append.mp ha with q | q
            · exact nt a q
            · simp at q
              subst q
              exact hD
          refine o2 (ρ2 ++ [D]) H2 (.ref D) e4 ?_ (.ref (get_end r2 D))
          refine ⟨by rw [List.length_append, List.length_singleton, ZH.n_push, r2.len], ?_, fun m b hb => ?_⟩
          · rw [List.nodup_append]
            refine ⟨r2.nd, by simp, fun a ha b hb => ?_⟩
            simp at hb
            subst hb
            rintro rfl
            exact nD2 ha
          · by_cases hm : m < ρ2.length
            · rw [List.getElem?_append_left hm] at hb
              obtain ⟨o1, q1, f1, f2, f3, f4⟩ := r2.ob m b hb
              refine ⟨o1, q1, by rw [ZH.get_push_lt _ _ (by rw [← r2.len]; exact hm)]; exact f1, f2, ?_, f4⟩
              cases f3 with
              | lst r => exact .lst (r.mono0 e3)
              | dct r => exact .dct (r.mono0 e3)
              | ins r nd =>
                refine .ins (r.mono0 e3) fun hm2 => ?_
                rcases List.mem_append.mp hm2 with q | q
                · exact nd q
                · simp at q
                  subst q
                  rw [f4 _ _ _ rfl] at hD2
                  cases hD2
            · rw [List.getElem?_append_right (by omega)] at hb
              have hm' : m = ρ2.length := by
                cases e5 : m - ρ2.length with
                | zero => omega
                | succ k => rw [e5] at hb; simp at hb
              subst hm'
              simp at hb
              subst hb
              exact ⟨.lst acc.reverse, .lst vs, by rw [r2.len]; exact ZH.get_push_same _ _, hD2, .lst (rz.mono0 e3), fun C dx ks z => by cases z⟩
        | some z =>
          obtain ⟨go, yl⟩ := j2 z qn
          refine .inr ⟨go, fun H' => ∃ ρ3 A3 acc vs, Ext ρ1 H1 ρ3 H' ∧ RH g ρ3 A3 H' ∧ D ∉ ρ3 ∧ H' D = some (.lst vs) ∧ RZs g ρ3 H' acc.reverse vs ∧ OutR g W σ ρ1 H1 (relZ g) Q (dLcL nx c tt te (wipeF fr own) m (i + 1) acc A3), fun H' w => ⟨m, Nat.lt_succ_self _, w⟩, fun v H3 hy => ?_⟩
          obtain ⟨e3, r3, rv⟩ := yl v H3 hy
          have fw := (hf1.mono (e2.trans e3)).wipe own
          dsimp only at o2
          cases qs : c.set z (wipeF fr own) with
          | none => rw [qs] at o2; exact o2.elim
          | some fr1 =>
            rw [qs] at o2
            dsimp only at o2
            have hD3 : H3 D = some (.lst vs) := e3.keep D _ (.inl nD2) hD2
            refine ct_run fw rv qs ho fun σ' f' ew => ⟨by rw [ew]; exact wipe_wipe own own fun _ h => h, ?_⟩
            refine ⟨ρ2, fr1, A2, f', r3, ?_⟩
            cases qt : tt fr1 A2 with
            | no => rw [qt] at o2; exact o2.elim
            | ex x A3 => rw [qt] at o2; exact o2.elim
            | ok b A3 =>
              rw [qt, Zed.R.bdn_ok] at o2
              intro ρ4 H4 b' e4 r4 eb
              subst eb
              have nD4 : D ∉ ρ4 := fun hm => by
                obtain ⟨t, et, nt⟩ := e4.ext
                rw [et] at hm
                rcases List.mem_append.mp hm with q | q
                · exact nD2 q
                · rw [nt _ q] at hD3
                  cases hD3
              have hD4 : H4 D = some (.lst vs) := e4.keep D _ (.inl nD2) hD3
              have e34 := (e2.trans e3).trans e4
              cases b with
              | false => exact ⟨ρ4, A3, acc, vs, e34, r4, nD4, hD4, rz.mono (e3.trans e4), o2⟩
              | true =>
                rw [if_pos rfl] at o2 ⊢
                refine ⟨ρ4, fr1, A3, f'.mono e4, r4, ?_⟩
                cases qe : te fr1 A3 with
                | no => rw [qe] at o2; exact o2.elim
                | ex x A5 => rw [qe] at o2; exact o2.elim
                | ok y A5 =>
                  rw [qe, Zed.R.bdn_ok] at o2
                  intro ρ5 H5 w e5 r5 rw5
                  have nD5 : D ∉ ρ5 := fun hm => by
                    obtain ⟨t, et, nt⟩ := e5.ext
                    rw [et] at hm
                    rcases List.mem_append.mp hm with q | q
                    · exact nD4 q
                    · rw [nt _ q] at hD4
                      cases hD4
                  have hD5 : H5 D = some (.lst vs) := e5.keep D _ (.inl nD4) hD4
                  by_cases hl : acc.length < sizeLine
                  · rw [if_pos hl] at o2
                    have hlen : vs.length = acc.length := by rw [← rz.length, List.length_reverse]
                    refine ⟨vs, hD5, by rw [hlen]; exact hl, ?_⟩
                    obtain ⟨r6, e6⟩ := r5.side (ws := vs ++ [w]) nD5 hD5
                    refine ⟨ρ5, A5, y :: acc, vs ++ [w], ?_, r6, nD5, upd_same, ?_, o2⟩
                    · have e35 := e34.trans e5
                      refine ⟨e35.ext, fun a o h ha => ?_, fun a o ha => ?_⟩
                      · have ne : a ≠ D := by
                          rintro rfl
                          rw [hD] at ha
                          cases ha
                        rw [upd_ne ne]
                        exact e35.keep a o h ha
                      · by_cases ne : a = D
                        · subst ne
                          exact ⟨_, upd_same⟩
                        · rw [upd_ne ne]
                          exact e35.there a o ha
                    · rw [List.reverse_cons]
                      exact ((rz.mono ((e3.trans e4).trans e5)).append (.cons rw5 .nil)).mono0 e6
                  · rw [if_neg hl] at o2
                    exact o2.elim
end
end Zed

/-! Zed 8: operators. -/
namespace Zed
open PySem PyProof.Rows L2

/-! ### values as data -/
def mapO {α β : Type} (f : α → Option β) : List α → Option (List β)
  | [] => some []
  | x :: r => match f x with
    | none => none
    | some y => match mapO f r with
      | none => none
      | some ys => some (y :: ys)
def datZ (A : ZH) : Nat → Z → Option PyData
  | _, .non => some .none
  | _, .bl b => some (.bool b)
  | _, .int i => some (.int i)
  | _, .str s => some (.str s)
  | 0, _ => none
  | k + 1, .tup zs => (mapO (datZ A k) zs).map .tuple
  | k + 1, .lit zs => (mapO (datZ A k) zs).map .list
  | k + 1, .ref n => match A.get n with
    | some (.lst zs) => (mapO (datZ A k) zs).map .list
    | _ => none
  | _ + 1, .cod _ => none
theorem TupAt.rd {K : PySem.W.Frag} {H : Hp} {a : Addr} {xs : List V} (h : TupAt K H a xs) : SqT K H a xs := h.sq
section
variable {g : G} {ρ : List Addr} {A : ZH} {H : Hp}
theorem dat_all {k : Nat} (ih : ∀ (z : Z) (v : V) (d : PyData), RZ g ρ H z v → datZ A k z = some d → Dp g.K H v d ∧ d.plain = true ∧ d.depth ≤ k) : ∀ (zs : List Z) (vs : List V) (ds : List PyData), RZs g ρ H zs vs → mapO (datZ A k) zs = some ds → DpAll g.K H vs ds ∧ PyData.plainAll ds = true ∧ PyData.depthAll ds ≤ k
  | [], _, ds, .nil, h => by
    cases h
    exact ⟨.nil, rfl, Nat.zero_le _⟩
  | z :: zs, _, ds, .cons r t, h => by
    unfold mapO at h
    cases q : datZ A k z with
    | none => rw [q] at h; cases h
    | some d =>
      rw [q] at h
      dsimp only at h
      cases q2 : mapO (datZ A k) zs with
      | none => rw [q2] at h; cases h
      | some ds' =>
        rw [q2] at h
        cases h
        obtain ⟨h1, h2, h3⟩ := ih z _ d r q
        obtain ⟨k1, k2, k3⟩ := dat_all ih zs _ ds' t q2
        refine ⟨.cons h1 k1, ?_, ?_⟩
        · unfold PyData.plainAll
          rw [h2, k2]
          rfl
        · unfold PyData.depthAll
          omega
theorem dat_ok (R : RH g ρ A H) : ∀ (k : Nat) (z : Z) (v : V) (d : PyData), RZ g ρ H z v → datZ A k z = some d → Dp g.K H v d ∧ d.plain = true ∧ d.depth ≤ k := by
  intro k
  induction k with
  | zero =>
    intro z v d r h
    cases r with
    | non => cases h; exact ⟨.non, rfl, Nat.zero_le _⟩
    | bl b => cases h; exact ⟨.bl b, rfl, Nat.zero_le _⟩
    | int b => cases h; exact ⟨.int b, rfl, Nat.zero_le _⟩
    | str b => cases h; exact ⟨.str b, rfl, Nat.zero_le _⟩
    | tup _ _ => cases h
    | lit _ _ => cases h
    | ref _ => cases h
    | cod _ => cases h
  | succ k ih =>
    intro z v d r h
    cases r with
    | non => cases h; exact ⟨.non, rfl, Nat.zero_le _⟩
    | bl b => cases h; exact ⟨.bl b, rfl, Nat.zero_le _⟩
    | int b => cases h; exact ⟨.int b, rfl, Nat.zero_le _⟩
    | str b => cases h; exact ⟨.str b, rfl, Nat.zero_le _⟩
    | @tup zs vs a r t =>
      have h : (mapO (datZ A k) zs).map PyData.tuple = some d := h
      cases q : mapO (datZ A k) zs with
      | none => rw [q] at h; cases h
      | some ds =>
        rw [q] at h
        cases h
        obtain ⟨h1, h2, h3⟩ := dat_all ih zs vs ds r q
        exact ⟨.tup t.sq h1, h2, Nat.succ_le_succ h3⟩
    | @lit zs vs a r t =>
      have h : (mapO (datZ A k) zs).map PyData.list = some d := h
      cases q : mapO (datZ A k) zs with
      | none => rw [q] at h; cases h
      | some ds =>
        rw [q] at h
        cases h
        obtain ⟨h1, h2, h3⟩ := dat_all ih zs vs ds r q
        exact ⟨.lst t.sq h1, h2, Nat.succ_le_succ h3⟩
    | @ref n a ha =>
      unfold datZ at h
      cases q : A.get n with
      | none => rw [q] at h; cases h
      | some o =>
        rw [q] at h
        cases o with
        | lst zs =>
          dsimp only at h
          obtain ⟨vs, e1, e2⟩ := R.lst ha q
          cases q2 : mapO (datZ A k) zs with
          | none => rw [q2] at h; cases h
          | some ds =>
            rw [q2] at h
            cases h
            obtain ⟨h1, h2, h3⟩ := dat_all ih zs vs ds e2 q2
            exact ⟨.lst (SqL.of e1) h1, h2, Nat.succ_le_succ h3⟩
        | _ => cases h
    | cod _ => cases h
end
/-- how deep == goes -/
abbrev deep : Nat := 12
def eqZ (x y : Z) (A : ZH) : R Z := match datZ A deep x, datZ A deep y with
  | some d, some e => .ok (.bl (PyData.eqv d e)) A
  | _, _ => .no
def neZ (x y : Z) (A : ZH) : R Z := match datZ A deep x, datZ A deep y with
  | some d, some e => .ok (.bl (!PyData.eqv d e)) A
  | _, _ => .no
def rEqP (K : PySem.W.Frag) : R2 := fun x y H Q => ∃ d e, Dp K H x d ∧ Dp K H y e ∧ d.plain = true ∧ e.plain = true ∧ d.depth ≤ deep ∧ Q (.bl (PyData.eqv d e)) H
def rNeP (K : PySem.W.Frag) : R2 := fun x y H Q => ∃ d e, Dp K H x d ∧ Dp K H y e ∧ d.plain = true ∧ e.plain = true ∧ d.depth ≤ deep ∧ Q (.bl (!PyData.eqv d e)) H
section
variable {X : Cx} {g : G} {xi : XI} {W : WX}
theorem o_eq (hu : X.A.units + 64 < cLine) (hK : X.K = g.K := by rfl) : OpR X (compareOp .Eq) (rEqP g.K) := by
  intro pins s σ H x y v u Q J rx ry h
  obtain ⟨d, e, hd, he, pd, pe, dp, q⟩ := h
  rw [← hK] at hd he
  obtain ⟨l1, r1⟩ := Dp.reads J d x v hd rx
  obtain ⟨l2, r2⟩ := Dp.reads J e y u he ry
  refine SeqAt.eq_plain r1 r2 pd pe ?_ ⟨.bl _, H, J, rfl, q⟩
  have := Nat.min_le_left d.depth e.depth
  have : deep = 12 := rfl
  omega
theorem o_ne (hu : X.A.units + 64 < cLine) (hK : X.K = g.K := by rfl) : OpR X (compareOp .NotEq) (rNeP g.K) := by
  intro pins s σ H x y v u Q J rx ry h
  obtain ⟨d, e, hd, he, pd, pe, dp, q⟩ := h
  rw [← hK] at hd he
  obtain ⟨l1, r1⟩ := Dp.reads J d x v hd rx
  obtain ⟨l2, r2⟩ := Dp.reads J e y u he ry
  refine SeqAt.ne_plain r1 r2 pd pe ?_ ⟨.bl _, H, J, rfl, q⟩
  have := Nat.min_le_left d.depth e.depth
  have : deep = 12 := rfl
  omega
theorem z_eq : OpZ g (rEqP g.K) eqZ := fun W σ ρ A H x y v u Q R rx ry h => by
  unfold eqZ at h
  cases q1 : datZ A deep x with
  | none => rw [q1] at h; exact h.elim
  | some d =>
    cases q2 : datZ A deep y with
    | none => rw [q1, q2] at h; exact h.elim
    | some e =>
      rw [q1, q2] at h
      obtain ⟨a1, a2, a3⟩ := dat_ok R _ _ _ _ rx q1
      obtain ⟨b1, b2, b3⟩ := dat_ok R _ _ _ _ ry q2
      exact ⟨d, e, a1, b1, a2, b2, a3, h ρ H _ (.refl _ _) R (.bl _)⟩
theorem z_ne : OpZ g (rNeP g.K) neZ := fun W σ ρ A H x y v u Q R rx ry h => by
  unfold neZ at h
  cases q1 : datZ A deep x with
  | none => rw [q1] at h; exact h.elim
  | some d =>
    cases q2 : datZ A deep y with
    | none => rw [q1, q2] at h; exact h.elim
    | some e =>
      rw [q1, q2] at h
      obtain ⟨a1, a2, a3⟩ := dat_ok R _ _ _ _ rx q1
      obtain ⟨b1, b2, b3⟩ := dat_ok R _ _ _ _ ry q2
      exact ⟨d, e, a1, b1, a2, b2, a3, h ρ H _ (.refl _ _) R (.bl _)⟩

/-! ### in: a part of a text, an item of a list or tuple -/
def inZ (x y : Z) (A : ZH) : R Bool := match y with
  | .str t => match x with
    | .str s => .ok (!(Builtin.Str.occurrences t s 0 t.length 1).isEmpty) A
    | _ => .no
  | _ => match datZ A deep x, datZ A deep y with
    | some d, some (.tuple ds) => .ok (ds.any fun z => PyData.eqv z d) A
    | some d, some (.list ds) => .ok (ds.any fun z => PyData.eqv z d) A
    | _, _ => .no
def inV' (x y : Z) (A : ZH) : R Z := (inZ x y A).bd fun b A1 => .ok (.bl b) A1
def niV' (x y : Z) (A : ZH) : R Z := (inZ x y A).bd fun b A1 => .ok (.bl (!b)) A1
def rInP (K : PySem.W.Frag) (f : Bool → Bool) : R2 := fun x y H Q => (∃ s t, x = .str s ∧ y = .str t ∧ Q (.bl (f (!(Builtin.Str.occurrences t s 0 t.length 1).isEmpty))) H) ∨
  ∃ d ds, Dp K H x d ∧ d.plain = true ∧ d.depth ≤ deep ∧ PyData.plainAll ds = true ∧ (Dp K H y (.tuple ds) ∨ Dp K H y (.list ds)) ∧ Q (.bl (f (ds.any fun z => PyData.eqv z d))) H
theorem o_in (hu : X.A.units + 64 < cLine) (hK : X.K = g.K := by rfl) : OpR X (compareOp .In) (rInP g.K id) := by
  intro pins s σ H x y v u Q J rx ry h
  rcases h with ⟨a, b, ea, eb, q⟩ | ⟨d, ds, hd, pd, dp, pds, hy, q⟩
  · exact op_in_str pins s σ H x y v u Q J rx ry ⟨a, b, ea, eb, q⟩
  · rw [← hK] at hd hy
    obtain ⟨l1, r1⟩ := Dp.reads J d x v hd rx
    have room : X.A.units + 1 + min (PyData.depthAll ds) d.depth < cLine := by
      have := Nat.min_le_right (PyData.depthAll ds) d.depth
      have : deep = 12 := rfl
      omega
    rcases hy with hy | hy
    · obtain ⟨l2, r2⟩ := Dp.reads J _ y u hy ry
      exact SeqAt.in_tuple_data r2 r1 pds pd room ⟨.bl _, H, J, rfl, q⟩
    · obtain ⟨l2, r2⟩ := Dp.reads J _ y u hy ry
      exact SeqAt.in_list_data r2 r1 pds pd room ⟨.bl _, H, J, rfl, q⟩
theorem o_ni (hu : X.A.units + 64 < cLine) (hK : X.K = g.K := by rfl) : OpR X (compareOp .NotIn) (rInP g.K not) := by
  intro pins s σ H x y v u Q J rx ry h
  rcases h with ⟨a, b, ea, eb, q⟩ | ⟨d, ds, hd, pd, dp, pds, hy, q⟩
  · exact op_notin_str pins s σ H x y v u Q J rx ry ⟨a, b, ea, eb, q⟩
  · rw [← hK] at hd hy
    obtain ⟨l1, r1⟩ := Dp.reads J d x v hd rx
    have room : X.A.units + 1 + min (PyData.depthAll ds) d.depth < cLine := by
      have := Nat.min_le_right (PyData.depthAll ds) d.depth
      have : deep = 12 := rfl
      omega
    rcases hy with hy | hy
    · obtain ⟨l2, r2⟩ := Dp.reads J _ y u hy ry
      exact SeqAt.notIn_tuple_data r2 r1 pds pd room ⟨.bl _, H, J, rfl, q⟩
    · obtain ⟨l2, r2⟩ := Dp.reads J _ y u hy ry
      exact SeqAt.notIn_list_data r2 r1 pds pd room ⟨.bl _, H, J, rfl, q⟩
theorem z_inf (f : Bool → Bool) : OpZ g (rInP g.K f) (fun x y A => (inZ x y A).bd fun b A1 => .ok (.bl (f b)) A1) := fun W σ ρ A H x y v u Q R rx ry h => by
  have h : OutR g W σ ρ H (relZ g) Q ((inZ x y A).bd fun b A1 => .ok (.bl (f b)) A1) := h
  have seq : (∀ t, y ≠ .str t) → rInP g.K f v u H Q := fun ny => by
    have e : inZ x y A = match datZ A deep x, datZ A deep y with
        | some d, some (.tuple ds) => .ok (ds.any fun z => PyData.eqv z d) A
        | some d, some (.list ds) => .ok (ds.any fun z => PyData.eqv z d) A
        | _, _ => .no := by
      cases y with
      | str t => exact absurd rfl (ny t)
      | _ => rfl
    rw [e] at h
    cases q1 : datZ A deep x with
    | none => rw [q1] at h; exact h.elim
    | some d =>
      cases q2 : datZ A deep y with
      | none => rw [q1, q2] at h; exact h.elim
      | some e =>
        rw [q1, q2] at h
        obtain ⟨a1, a2, a3⟩ := dat_ok R _ _ _ _ rx q1
        obtain ⟨b1, b2, b3⟩ := dat_ok R _ _ _ _ ry q2
        cases e with
        | tuple ds => exact .inr ⟨d, ds, a1, a2, a3, b2, .inl b1, h ρ H _ (.refl _ _) R (.bl _)⟩
        | list ds => exact .inr ⟨d, ds, a1, a2, a3, b2, .inr b1, h ρ H _ (.refl _ _) R (.bl _)⟩
        | _ => exact h.elim
  cases ry with
  | str t =>
    cases rx with
    | str s => exact .inl ⟨s, t, rfl, rfl, h ρ H _ (.refl _ _) R (.bl _)⟩
    | _ => exact h.elim
  | _ => exact seq (fun t e => by cases e)
theorem z_in : OpZ g (rInP g.K id) inV' := z_inf id
theorem z_ni : OpZ g (rInP g.K not) niV' := z_inf not

/-! ### ints -/
def intZ (f : Int → Int → Z) (x y : Z) (A : ZH) : R Z := match x, y with
  | .int i, .int j => .ok (f i j) A
  | _, _ => .no
def intCZ (c : Int → Int → Bool) (f : Int → Int → Z) (x y : Z) (A : ZH) : R Z := match x, y with
  | .int i, .int j => if c i j = true then .ok (f i j) A else .no
  | _, _ => .no
theorem z_int {f : Int → Int → Z} {h : Int → Int → V} (r : ∀ i j ρ H, RZ g ρ H (f i j) (h i j)) : OpZ g (rI0 h) (intZ f) := fun W σ ρ A H x y v u Q R rx ry o => by
  cases rx with
  | int i =>
    cases ry with
    | int j => exact ⟨i, j, rfl, rfl, o ρ H _ (.refl _ _) R (r i j ρ H)⟩
    | _ => exact o.elim
  | _ => exact o.elim
theorem z_intC {c : Int → Int → Bool} {C : Int → Int → Prop} {f : Int → Int → Z} {h : Int → Int → V} (hc : ∀ i j, c i j = true → C i j) (r : ∀ i j ρ H, RZ g ρ H (f i j) (h i j)) : OpZ g (rI C h) (intCZ c f) := fun W σ ρ A H x y v u Q R rx ry o => by
  cases rx with
  | int i =>
    cases ry with
    | int j =>
      have o : OutR g W σ ρ H (relZ g) Q (if c i j = true then .ok (f i j) A else .no) := o
      by_cases e : c i j = true
      · rw [if_pos e] at o
        exact ⟨i, j, rfl, rfl, hc i j e, o ρ H _ (.refl _ _) R (r i j ρ H)⟩
      · rw [if_neg e] at o
        exact o.elim
    | _ => exact o.elim
  | _ => exact o.elim
def subZ : Z → Z → ZH → R Z := intZ fun i j => .int (i - j)
theorem z_sub : OpZ g (rI0 fun i j => .int (i - j)) subZ := z_int fun _ _ _ _ => .int _
def ltZ : Z → Z → ZH → R Z := intZ fun i j => .bl (decide (i < j))
def leZ : Z → Z → ZH → R Z := intZ fun i j => .bl (decide (i ≤ j))
def gtZ : Z → Z → ZH → R Z := intZ fun i j => .bl (decide (j < i))
def geZ : Z → Z → ZH → R Z := intZ fun i j => .bl (decide (j ≤ i))
theorem z_lt : OpZ g (rI0 fun i j => .bl (decide (i < j))) ltZ := z_int fun _ _ _ _ => .bl _
theorem z_le : OpZ g (rI0 fun i j => .bl (decide (i ≤ j))) leZ := z_int fun _ _ _ _ => .bl _
theorem z_gt : OpZ g (rI0 fun i j => .bl (decide (j < i))) gtZ := z_int fun _ _ _ _ => .bl _
theorem z_ge : OpZ g (rI0 fun i j => .bl (decide (j ≤ i))) geZ := z_int fun _ _ _ _ => .bl _
def modZ : Z → Z → ZH → R Z := intCZ (fun _ j => decide (0 < j)) fun i j => .int (i % j)
theorem z_mod : OpZ g (rI (fun _ j => 0 < j) fun i j => .int (i % j)) modZ := z_intC (fun _ _ e => of_decide_eq_true e) fun _ _ _ _ => .int _
def divZ : Z → Z → ZH → R Z := intCZ (fun _ j => decide (0 < j) && decide (j.natAbs.log2 < 9000)) fun i j => .int (i / j)
theorem z_div : OpZ g (rI CDivW fun i j => .int (i / j)) divZ := z_intC (fun _ _ e => by rw [Bool.and_eq_true] at e; exact ⟨of_decide_eq_true e.1, of_decide_eq_true e.2⟩) fun _ _ _ _ => .int _
def powZ : Z → Z → ZH → R Z := intCZ (fun i j => decide (0 ≤ j) && decide (j ≤ 1000000) && decide (i.natAbs < 2 ^ 64)) fun i j => .int (i ^ j.toNat)
theorem z_pow : OpZ g (rI CPow fun i j => .int (i ^ j.toNat)) powZ := z_intC (fun _ _ e => by rw [Bool.and_eq_true, Bool.and_eq_true] at e; exact ⟨of_decide_eq_true e.1.1, of_decide_eq_true e.1.2, of_decide_eq_true e.2⟩) fun _ _ _ _ => .int _

/-! ### + -/
/-- a list's items, of the heap or only read -/
def itemsZ (x : Z) (A : ZH) : Option (List Z) := match x with
  | .lit xs => some xs
  | .ref n => match A.get n with
    | some (.lst xs) => some xs
    | _ => none
  | _ => none
theorem items_ok {ρ : List Addr} {A : ZH} {H : Hp} {x : Z} {v : V} {xs : List Z} (R : RH g ρ A H) (r : RZ g ρ H x v) (h : itemsZ x A = some xs) : ∃ a vs, v = .ref a ∧ SqL g.K H a vs ∧ RZs g ρ H xs vs := by
  cases r with
  | lit r t => cases h; exact ⟨_, _, rfl, t.sq, r⟩
  | @ref n a ha =>
    unfold itemsZ at h
    dsimp only at h
    cases q : A.get n with
    | none => rw [q] at h; cases h
    | some o =>
      rw [q] at h
      cases o with
      | lst ys =>
        cases h
        obtain ⟨vs, h1, h2⟩ := R.lst ha q
        exact ⟨a, vs, rfl, SqL.of h1, h2⟩
      | _ => cases h
  | _ => cases h
def addZ (x y : Z) (A : ZH) : R Z := match x, y with
  | .int i, .int j => .ok (.int (i + j)) A
  | .str s, .str t => if s.length + t.length ≤ sizeLine then .ok (.str (s ++ t)) A else .no
  | .tup xs, .tup ys => if xs.length + ys.length ≤ sizeLine then .ok (.tup (xs ++ ys)) A else .no
  | x, y => match itemsZ x A, itemsZ y A with
    | some xs, some ys => if xs.length + ys.length ≤ sizeLine then .ok (.ref A.n) (A.push (.lst (xs ++ ys))) else .no
    | _, _ => .no
def rCatL (K : PySem.W.Frag) : R2 := fun x y H Q => ∃ l b xs zs, x = .ref l ∧ y = .ref b ∧ SqL K H l xs ∧ SqL K H b zs ∧ xs.length + zs.length ≤ sizeLine ∧ ∀ p, H p = none → Q (.ref p) (upd H p (.lst (xs ++ zs)))
theorem o_catL : OpR X (binaryOp .Add) (rCatL X.K) := by
  rintro pins s σ H x y v u Q J rx ry ⟨l, b, xs, zs, rfl, rfl, hl, hb, hz, q⟩
  cases rx
  cases ry
  obtain ⟨it1, r1, ⟨⟨c1, d1, t1, s1⟩, n1, ho1, hc1, _, hd1⟩, _⟩ := J.list hl
  obtain ⟨it2, r2, ⟨⟨c2, d2, t2, s2⟩, n2, ho2, hc2, _, hd2⟩, _⟩ := J.list hb
  simp only at hc1 hd1 hc2 hd2
  subst hc1 hd1 hc2 hd2
  have l1 := r1.length
  have l2 := r2.length
  refine concat_meets ⟨_, ho1, rfl⟩ ⟨_, ho2, rfl⟩ noFill_list_add seq_list_add PySem.F.slot_list_add PySem.F.entry_list_add (PySem.F.args_list_add_2 _ _) (list_addW l b it1.toArray it2.toArray n1 n2 d1 d2 s1 s2 (by simp only [List.size_toArray]; omega)) ⟨ho1, ho2, ?_⟩
  rw [show it1.toArray ++ it2.toArray = (it1 ++ it2).toArray by simp]
  exact ⟨.ref _, _, J.lnew (t' := s.toks) (r1.append r2) (by rw [List.length_append]; omega), rfl, q _ J.fresh⟩
def rAddS : R2 := fun x y H Q => ∃ i j, x = .str i ∧ y = .str j ∧ i.length + j.length ≤ sizeLine ∧ Q (.str (i ++ j)) H
def rAddA (K : PySem.W.Frag) : R2 := fun x y H Q => rI0 (fun i j => .int (i + j)) x y H Q ∨ rAddS x y H Q ∨ rCatA K x y H Q ∨ rCatL K x y H Q
theorem o_add (hK : X.K = g.K := by rfl) : OpR X (binaryOp .Add) (rAddA g.K) := by
  rw [← hK]
  exact op_add.or (OpR.or (r := rAddS) op_add_str (op_catA.or o_catL))
theorem z_addL {W : WX} {σ : St} {ρ : List Addr} {A : ZH} {H : Hp} {x y : Z} {v u : V} {Q : VK} (R : RH g ρ A H) (rx : RZ g ρ H x v) (ry : RZ g ρ H y u) (h : OutR g W σ ρ H (relZ g) Q (match itemsZ x A, itemsZ y A with
    | some xs, some ys => if xs.length + ys.length ≤ sizeLine then .ok (.ref A.n) (A.push (.lst (xs ++ ys))) else .no
    | _, _ => .no)) : rAddA g.K v u H Q := by
  cases q1 : itemsZ x A with
  | none => rw [q1] at h; exact h.elim
  | some xs =>
    cases q2 : itemsZ y A with
    | none => rw [q1, q2] at h; exact h.elim
    | some ys =>
      rw [q1, q2] at h
      dsimp only at h
      by_cases hl : xs.length + ys.length ≤ sizeLine
      · rw [if_pos hl] at h
        obtain ⟨a, vs, rfl, k1, k2⟩ := items_ok R rx q1
        obtain ⟨b, ws, rfl, k3, k4⟩ := items_ok R ry q2
        exact .inr (.inr (.inr ⟨a, b, vs, ws, rfl, rfl, k1, k3, by rw [← k2.length, ← k4.length]; exact hl, fun p hp => new_lst R (k2.append k4) h p hp⟩))
      · rw [if_neg hl] at h
        exact h.elim
theorem z_add : OpZ g (rAddA g.K) addZ := fun W σ ρ A H x y v u Q R rx ry h => by
  cases x with
  | int i =>
    cases y with
    | int j => cases rx; cases ry; exact .inl ⟨i, j, rfl, rfl, h ρ H _ (.refl _ _) R (.int _)⟩
    | _ => exact z_addL R rx ry h
  | str s =>
    cases y with
    | str t =>
      cases rx
      cases ry
      have h : OutR g W σ ρ H (relZ g) Q (if s.length + t.length ≤ sizeLine then .ok (.str (s ++ t)) A else .no) := h
      by_cases hl : s.length + t.length ≤ sizeLine
      · rw [if_pos hl] at h
        exact .inr (.inl ⟨s, t, rfl, rfl, hl, h ρ H _ (.refl _ _) R (.str _)⟩)
      · rw [if_neg hl] at h
        exact h.elim
    | _ => exact z_addL R rx ry h
  | tup xs =>
    cases y with
    | tup ys =>
      cases rx with
      | @tup _ vs a r t =>
        cases ry with
        | @tup _ ws b r' t' =>
          have h : OutR g W σ ρ H (relZ g) Q (if xs.length + ys.length ≤ sizeLine then .ok (.tup (xs ++ ys)) A else .no) := h
          by_cases hl : xs.length + ys.length ≤ sizeLine
          · rw [if_pos hl] at h
            refine .inr (.inr (.inl ⟨a, b, vs, ws, rfl, rfl, t.sq, t'.sq, by rw [← r.length, ← r'.length]; exact hl, fun z => ?_, fun _ z => ?_, fun _ _ p hp => ?_⟩))
            · subst z
              cases r
              exact h ρ H _ (.refl _ _) R (.tup r' t')
            · subst z
              cases r'
              rw [List.append_nil] at h
              exact h ρ H _ (.refl _ _) R (.tup r t)
            · exact new_tup R (r.append r') h p hp
          · rw [if_neg hl] at h
            exact h.elim
    | _ => exact z_addL R rx ry h
  | _ => exact z_addL R rx ry h

/-! ### * -/
def mulOk (i j : Int) : Bool := (decide (-(2 ^ 64) < i) && decide (i < 2 ^ 64)) || (decide (-(2 ^ 64) < j) && decide (j < 2 ^ 64)) || decide (i.natAbs.log2 + j.natAbs.log2 < 1000000)
def repOk (n : Nat) (k : Int) : Bool := decide (-(2 ^ 63) ≤ k) && decide (k < 2 ^ 63) && decide (n * k.toNat ≤ sizeLine)
def mulSOk (n : Nat) (k : Int) : Bool := decide (1 ≤ k) && decide (k ≤ 1000000) && decide (n * k.toNat ≤ 1000000)
def mulTOk (xs : List Z) (k : Int) : Bool := !xs.isEmpty && decide (2 ≤ k) && decide (k ≤ 1000) && decide (xs.length ≤ 1000)
def mulZ (x y : Z) (A : ZH) : R Z := match x, y with
  | .int i, .int j => if mulOk i j = true then .ok (.int (i * j)) A else .no
  | .str s, .int k => if mulSOk s.length k = true then .ok (.str (Txt.mul s k)) A else .no
  | .ref n, .int k => match A.get n with
    | some (.lst xs) => if repOk xs.length k = true then .ok (.ref A.n) (A.push (.lst (List.replicate k.toNat xs).flatten)) else .no
    | _ => .no
  | .tup xs, .int k => if mulTOk xs k = true then .ok (.tup (List.replicate k.toNat xs).flatten) A else .no
  | _, _ => .no
def rMulS : R2 := fun x y H Q => ∃ z k, x = .str z ∧ y = .int k ∧ MulOk z k ∧ Q (.str (Txt.mul z k)) H
theorem o_mulS : OpR X (binaryOp .Mult) rMulS := by
  rintro pins s σ H x y v u Q J rx ry ⟨z, k, rfl, rfl, ok, q⟩
  obtain ⟨t, rfl⟩ := rx
  obtain ⟨t', rfl⟩ := ry
  exact SB.mul ok fun t2 tk => ⟨.str _, H, J.tok tk, ⟨_, rfl⟩, q⟩
theorem mulS_ok {z : Str} {k : Int} (h1 : 1 ≤ k) (h2 : k ≤ 1000000) (h3 : z.length * k.toNat ≤ 1000000) : MulOk z k := by
  refine ⟨?_, fun _ _ => ?_, fun _ _ => ?_⟩
  · rw [Bool.or_eq_false_iff]
    exact ⟨decide_eq_false (by omega), decide_eq_false (by omega)⟩
  · have hk : (1000000 : Int) ≤ (2 ^ 63 - 1) / k := by
      refine Int.le_ediv_of_mul_le (by omega) ?_
      omega
    have hz : (z.length : Int) ≤ 1000000 := by
      have e1 : 1 ≤ k.toNat := by omega
      have e2 := Nat.mul_le_mul_left z.length e1
      omega
    omega
  · unfold Builtin.Str.tooLong
    exact decide_eq_false (by rw [sizeLine_eq]; omega)
def rMulA (K : PySem.W.Frag) : R2 := fun x y H Q => (rI CMul (fun i j => .int (i * j)) x y H Q ∨ rI CMulW (fun i j => .int (i * j)) x y H Q) ∨ rMulS x y H Q ∨ rRep x y H Q ∨ rRepT K x y H Q
theorem o_mul (hK : X.K = g.K := by rfl) : OpR X (binaryOp .Mult) (rMulA g.K) := by
  rw [← hK]
  exact (op_mul.or op_mulW).or (o_mulS.or (op_rep.or op_repT))
theorem RZs.flat {ρ : List Addr} {H : Hp} {xs : List Z} {vs : List V} (r : RZs g ρ H xs vs) : ∀ k : Nat, RZs g ρ H (List.replicate k xs).flatten (List.replicate k vs).flatten
  | 0 => .nil
  | k + 1 => by
    rw [List.replicate_succ, List.replicate_succ, List.flatten_cons, List.flatten_cons]
    exact r.append (RZs.flat r k)
theorem z_mul : OpZ g (rMulA g.K) mulZ := fun W σ ρ A H x y v u Q R rx ry h => by
  cases ry with
  | int j =>
    cases rx with
    | int i =>
      have h : OutR g W σ ρ H (relZ g) Q (if mulOk i j = true then .ok (.int (i * j)) A else .no) := h
      by_cases e : mulOk i j = true
      · rw [if_pos e] at h
        have q := h ρ H _ (.refl _ _) R (.int _)
        unfold mulOk at e
        rw [Bool.or_eq_true, Bool.or_eq_true, Bool.and_eq_true, Bool.and_eq_true] at e
        rcases e with (e | e) | e
        · exact .inl (.inl ⟨i, j, rfl, rfl, .inl ⟨of_decide_eq_true e.1, of_decide_eq_true e.2⟩, q⟩)
        · exact .inl (.inl ⟨i, j, rfl, rfl, .inr ⟨of_decide_eq_true e.1, of_decide_eq_true e.2⟩, q⟩)
        · exact .inl (.inr ⟨i, j, rfl, rfl, (of_decide_eq_true e : i.natAbs.log2 + j.natAbs.log2 < 1000000), q⟩)
      · rw [if_neg e] at h
        exact h.elim
    | str s =>
      have h : OutR g W σ ρ H (relZ g) Q (if mulSOk s.length j = true then .ok (.str (Txt.mul s j)) A else .no) := h
      by_cases e : mulSOk s.length j = true
      · rw [if_pos e] at h
        unfold mulSOk at e
        rw [Bool.and_eq_true, Bool.and_eq_true] at e
        exact .inr (.inl ⟨s, j, rfl, rfl, mulS_ok (of_decide_eq_true e.1.1) (of_decide_eq_true e.1.2) (of_decide_eq_true e.2), h ρ H _ (.refl _ _) R (.str _)⟩)
      · rw [if_neg e] at h
        exact h.elim
    | @ref n a ha =>
      unfold mulZ at h
      dsimp only at h
      cases q1 : A.get n with
      | none => rw [q1] at h; exact h.elim
      | some o1 =>
        rw [q1] at h
        cases o1 with
        | lst xs =>
          dsimp only at h
          by_cases e : repOk xs.length j = true
          · rw [if_pos e] at h
            obtain ⟨vs, k1, k2⟩ := R.lst ha q1
            unfold repOk at e
            rw [Bool.and_eq_true, Bool.and_eq_true] at e
            exact .inr (.inr (.inl ⟨a, j, vs, rfl, rfl, k1, of_decide_eq_true e.1.1, of_decide_eq_true e.1.2, by rw [← k2.length]; exact of_decide_eq_true e.2, fun p hp => new_lst R (k2.flat _) h p hp⟩))
          · rw [if_neg e] at h
            exact h.elim
        | _ => exact h.elim
    | @tup xs vs a r t =>
      have h : OutR g W σ ρ H (relZ g) Q (if mulTOk xs j = true then .ok (.tup (List.replicate j.toNat xs).flatten) A else .no) := h
      by_cases e : mulTOk xs j = true
      · rw [if_pos e] at h
        unfold mulTOk at e
        rw [Bool.and_eq_true, Bool.and_eq_true, Bool.and_eq_true] at e
        refine .inr (.inr (.inr ⟨a, j, vs, rfl, rfl, t.sq, fun z => ?_, of_decide_eq_true e.1.1.2, of_decide_eq_true e.1.2, by rw [← r.length]; exact of_decide_eq_true e.2, fun p hp => new_tup R (r.flat _) h p hp⟩))
        subst z
        cases r
        exact absurd e.1.1.1 (by decide)
      · rw [if_neg e] at h
        exact h.elim
    | _ => exact h.elim
  | _ => cases rx <;> exact h.elim

/-! ### items -/
def ixZ (x y : Z) (A : ZH) : R Z := match y with
  | .int i => match x with
    | .tup xs => match atI xs i with
      | some z => .ok z A
      | none => .no
    | .str s => if s.length ≤ sizeLine then (match atI s.cps.toList i with
      | some c => .ok (.str ⟨#[c]⟩) A
      | none => .no) else .no
    | x => match itemsZ x A with
      | some xs => match atI xs i with
        | some z => .ok z A
        | none => .no
      | none => .no
  | _ => .no
theorem RZs.atI {ρ : List Addr} {H : Hp} {xs : List Z} {vs : List V} {i : Int} {z : Z} (r : RZs g ρ H xs vs) (h : L2.atI xs i = some z) : ∃ v, L2.atI vs i = some v ∧ RZ g ρ H z v := by
  unfold L2.atI at h ⊢
  rw [← r.length]
  cases q : ixN xs.length i with
  | none => rw [q] at h; cases h
  | some j =>
    rw [q] at h
    exact r.get h
theorem o_ix (hK : X.K = g.K := by rfl) : IxR X (rIx g.K) := by
  rw [← hK]
  exact ix_seq
theorem z_ix : OpZ g (rIx g.K) ixZ := fun W σ ρ A H x y v u Q R rx ry h => by
  cases ry with
  | int i =>
    have one : ∀ {xs : List Z} {vs : List V}, RZs g ρ H xs vs → OutR g W σ ρ H (relZ g) Q (match atI xs i with
        | some z => .ok z A
        | none => .no) → ∃ w, atI vs i = some w ∧ Q w H := fun {xs vs} r o => by
      cases q : atI xs i with
      | none => rw [q] at o; exact o.elim
      | some z =>
        rw [q] at o
        obtain ⟨w, h1, h2⟩ := r.atI q
        exact ⟨w, h1, o ρ H w (.refl _ _) R h2⟩
    have lists : (match itemsZ x A with
        | some xs => match atI xs i with
          | some z => .ok z A
          | none => .no
        | none => (.no : Zed.R Z)) = ixZ x (.int i) A → rIx g.K v (.int i) H Q := fun e => by
      rw [← e] at h
      cases q : itemsZ x A with
      | none => rw [q] at h; exact h.elim
      | some xs =>
        rw [q] at h
        obtain ⟨a, vs, rfl, k1, k2⟩ := items_ok R rx q
        obtain ⟨w, h1, h2⟩ := one k2 h
        exact .inl ⟨a, vs, i, w, rfl, rfl, k1, h1, h2⟩
    cases rx with
    | @tup xs vs a r t =>
      obtain ⟨w, h1, h2⟩ := one r h
      exact .inr (.inl ⟨a, vs, i, w, rfl, rfl, t.sq, h1, h2⟩)
    | str s =>
      have h : OutR g W σ ρ H (relZ g) Q (if s.length ≤ sizeLine then (match atI s.cps.toList i with
        | some c => .ok (.str ⟨#[c]⟩) A
        | none => .no) else .no) := h
      by_cases hl : s.length ≤ sizeLine
      · rw [if_pos hl] at h
        cases q : atI s.cps.toList i with
        | none => rw [q] at h; exact h.elim
        | some c =>
          rw [q] at h
          exact .inr (.inr ⟨s, i, c, rfl, rfl, hl, q, h ρ H _ (.refl _ _) R (.str _)⟩)
      · rw [if_neg hl] at h
        exact h.elim
    | _ => exact lists rfl
  | _ => exact h.elim
/-- l[i] = v -/
def setZ (o i v : Z) (A : ZH) : Option ZH := match o, i with
  | .ref n, .int k => match A.get n with
    | some (.lst xs) => match ixN xs.length k with
      | some j => some (A.set n (.lst (xs.set j v)))
      | none => none
    | _ => none
  | _, _ => none
theorem z_set : SetZ g rSetL setZ := fun ρ A H o i v ov iv vv Q R ro ri rv A' e k => by
  cases ro with
  | @ref n a ha =>
    cases ri with
    | int l =>
      unfold setZ at e
      dsimp only at e
      cases q1 : A.get n with
      | none => rw [q1] at e; cases e
      | some o1 =>
        rw [q1] at e
        cases o1 with
        | lst xs =>
          dsimp only at e
          cases q2 : ixN xs.length l with
          | none => rw [q2] at e; cases e
          | some j =>
            rw [q2] at e
            cases e
            obtain ⟨vs, k1, k2⟩ := R.lst ha q1
            obtain ⟨R', e'⟩ := R.upd ha (.lst (k2.set rv j)) fun C dx ks z => by cases z
            exact ⟨a, vs, l, j, rfl, rfl, k1, by rw [← k2.length]; exact q2, k _ e' R'⟩
        | _ => cases e
    | _ => cases e
  | _ => cases e

/-! ### slices -/
def cutZ (xs : List Z) (lo hi : Option Int) : List Z := (xs.drop (HT.sIx xs.length 0 lo)).take (HT.sIx xs.length xs.length hi - HT.sIx xs.length 0 lo)
theorem RZs.cut {ρ : List Addr} {H : Hp} {xs : List Z} {vs : List V} (r : RZs g ρ H xs vs) (lo hi : Option Int) : RZs g ρ H (cutZ xs lo hi) (cutV vs lo hi) := by
  unfold cutZ cutV
  rw [r.length]
  exact (r.drop _).take _
def slZ (x : Z) (lo hi : Option Int) (A : ZH) : R Z := match x with
  | .str s => if s.length ≤ sizeLine then .ok (.str (cutS s lo hi)) A else .no
  | .tup xs => .ok (.tup (cutZ xs lo hi)) A
  | x => match itemsZ x A with
    | some xs => .ok (.ref A.n) (A.push (.lst (cutZ xs lo hi)))
    | none => .no
abbrev DP := Fr → ZH → R (Option Int)
def dNoP : DP := fun _ A => .ok none A
def dPt (d : DE) : DP := fun fr A => (d fr A).bd fun z A1 => match z with
  | .int i => .ok (some i) A1
  | _ => .no
abbrev relP : List Addr → Hp → Option Int → Option Int → Prop := fun _ _ a b => a = b
def SP' (X : Cx) (g : G) (xi : XI) (W : WX) (e : Option Expr) (d : DP) : Prop := PO X e (rd g xi W relP d)
theorem PO.imp {e : Option Expr} {t u : TO} (h : PO X e t) (k : ∀ σ H Q, u σ H Q → t σ H Q) : PO X e u := ⟨fun pins s σ H Q I hu => h.run pins s σ H Q I (k σ H Q hu)⟩
theorem p_none : SP' X g xi W none dNoP := by
  refine PO.imp po_none fun σ H Q h => ?_
  obtain ⟨ρ, fr, A, hf, hr, h⟩ := h
  exact h ρ H _ (.refl _ _) hr rfl
theorem p_some {e : Expr} {d : DE} (h : SE X g xi W e d) : SP' X g xi W (some e) (dPt d) := by
  refine PO.imp (po_some h) fun σ H Q h => ?_
  obtain ⟨ρ, fr, A, hf, hr, h⟩ := h
  refine bd_run hf hr h fun x A1 ρ1 H1 v e1 hf1 hr1 rx ho1 => ?_
  cases rx with
  | int i => exact ⟨i, rfl, ho1 ρ1 H1 _ (.refl _ _) hr1 rfl⟩
  | _ => exact ho1.elim
def dSl (d : DE) (lo hi : DP) : DE := fun fr A => (d fr A).bd fun x A1 => (lo fr A1).bd fun l A2 => (hi fr A2).bd fun u A3 => slZ x l u A3
def rSlB (K : PySem.W.Frag) : V → Option Int → Option Int → Hp → VK → Prop := fun x lo hi H Q => rSlS x lo hi H Q ∨ rSlA K x lo hi H Q ∨ rSlL K x lo hi H Q
theorem o_sl (hK : X.K = g.K := by rfl) : SlR X (rSlB g.K) := by
  rw [← hK]
  exact sl_str.or (sl_tupA.or sl_list)
theorem cut_whole (xs : List Z) (lo hi : Option Int) (h : HT.sIx xs.length 0 lo = 0 ∧ HT.sIx xs.length xs.length hi = xs.length) : cutZ xs lo hi = xs := by
  unfold cutZ
  rw [h.1, h.2, Nat.sub_zero, List.drop_zero, List.take_length]
theorem e_sl {e : Expr} {d : DE} {lo hi : Option Expr} {dl dh : DP} {pos p2 : Pos} (he : SE X g xi W e d) (hl : SP' X g xi W lo dl) (hh : SP' X g xi W hi dh) (hK : X.K = g.K := by rfl) : SE X g xi W (.Subscript e (.Slice lo hi none p2) pos) (dSl d dl dh) := by
  refine PE.imp (pe_slice (o_sl hK) he hl hh) fun σ H Q h => ?_
  obtain ⟨ρ, fr, A, hf, hr, h⟩ := h
  refine bd_run hf hr h fun x A1 ρ1 H1 v e1 hf1 hr1 rx ho1 => ?_
  refine bd_run hf1 hr1 ho1 fun l A2 ρ2 H2 l' e2 hf2 hr2 el ho2 => ?_
  subst el
  refine bd_run hf2 hr2 ho2 fun u A3 ρ3 H3 u' e3 hf3 hr3 eu ho3 => ?_
  subst eu
  have rx := rx.mono (e2.trans e3)
  have lists : (match itemsZ x A3 with
      | some xs => .ok (.ref A3.n) (A3.push (.lst (cutZ xs l u)))
      | none => (.no : R Z)) = slZ x l u A3 → rSlB g.K v l u H3 Q := fun e => by
    rw [← e] at ho3
    cases q : itemsZ x A3 with
    | none => rw [q] at ho3; exact ho3.elim
    | some xs =>
      rw [q] at ho3
      obtain ⟨a, vs, rfl, k1, k2⟩ := items_ok hr3 rx q
      exact .inr (.inr ⟨a, vs, rfl, k1, fun p hp => new_lst hr3 (k2.cut l u) ho3 p hp⟩)
  cases rx with
  | str s =>
    have h : OutR g W σ ρ3 H3 (relZ g) Q (if s.length ≤ sizeLine then .ok (.str (cutS s l u)) A3 else .no) := ho3
    by_cases hs : s.length ≤ sizeLine
    · rw [if_pos hs] at h
      exact .inl ⟨s, rfl, hs, h ρ3 H3 _ (.refl _ _) hr3 (.str _)⟩
    · rw [if_neg hs] at h
      exact h.elim
  | @tup xs vs a r t =>
    have h : OutR g W σ ρ3 H3 (relZ g) Q (.ok (.tup (cutZ xs l u)) A3) := ho3
    refine .inr (.inl ⟨a, vs, rfl, t.sq, fun z => ?_, fun z p hp => new_tup hr3 (r.cut l u) h p hp⟩)
    rw [← r.length] at z
    rw [cut_whole xs l u z] at h
    exact h ρ3 H3 _ (.refl _ _) hr3 (.tup r t)
  | _ => exact lists rfl
end
end Zed

/-! Zed 9: built-in calls and methods; exceptions: raise, try. -/
namespace Zed
open PySem PyProof.Rows L2
section
variable {X : Cx} {g : G} {xi : XI} {W : WX} {e o a b : Expr} {es : List Expr} {d da db dO : DE} {dr : DA} {p pos apos : Pos} {x : Str}

/-! ### calls of built-ins -/
def CallZ (g : G) (r : List V → Hp → VK → Prop) (f : List Z → ZH → R Z) : Prop :=
  ∀ (W : WX) (σ : St) (ρ : List Addr) (A : ZH) (H : Hp) (zs : List Z) (vs : List V) (Q : VK), RH g ρ A H → RZs g ρ H zs vs → OutR g W σ ρ H (relZ g) Q (f zs A) → r vs H Q
def dCB (f : List Z → ZH → R Z) (da : DA) : DE := fun fr A => (da fr A).bd f
theorem cb_run {r : List V → Hp → VK → Prop} {f : List Z → ZH → R Z} (hz : CallZ g r f) {σ : St} {H : Hp} {Q : VK} (h : rd g xi W (relZ g) (dCB f dr) σ H Q) : tCB r (rd g xi W (relZs g) dr) σ H Q := by
  obtain ⟨ρ, fr, A, hf, hr, h⟩ := h
  refine bd_run hf hr h fun zs A1 ρ1 H1 vs e1 hf1 hr1 rx ho1 => ?_
  exact hz W σ ρ1 A1 H1 zs vs Q hr1 rx ho1
theorem e_cb {id : String} {r : List V → Hp → VK → Prop} {f : List Z → ZH → R Z} (hc : CallR X (.builtin id) r) (hz : CallZ g r f) (hm : X.mg x = none) (hv : bootBuiltins x = some (.builtin id)) (ha : SA X g xi W (e :: es) dr) (hg : Gl X x := by rfl)
    (hn : x ≠ "__name__" := by decide) (hdb : (x == ("__debug__" : Str)) = false := by decide) (he : starEach (e :: es) X.env = (false, eval e X.env) :: starEach es X.env := by rfl) (hpl : (backTo pos (starEach es X.env)).any (·.1) = false := by rfl) : SE X g xi W (.Call (.Name x p) (e :: es) [] pos) (dCB f dr) :=
  PE.imp (pe_callB hc hg hm hv ha hn hdb he hpl) fun _ _ _ h => cb_run hz h
theorem e_ct {T : String} {r : List V → Hp → VK → Prop} {f : List Z → ZH → R Z} (hc : CallR X (.type T) r) (hz : CallZ g r f) (hm : X.mg x = none) (hv : bootBuiltins x = some (.type T)) (ha : SA X g xi W (e :: es) dr) (hg : Gl X x := by rfl)
    (hn : x ≠ "__name__" := by decide) (hdb : (x == ("__debug__" : Str)) = false := by decide) (he : starEach (e :: es) X.env = (false, eval e X.env) :: starEach es X.env := by rfl) (hpl : (backTo pos (starEach es X.env)).any (·.1) = false := by rfl) : SE X g xi W (.Call (.Name x p) (e :: es) [] pos) (dCB f dr) :=
  PE.imp (pe_callTy hc hg hm hv ha hn hdb he hpl) fun _ _ _ h => cb_run hz h
/-- len -/
def lenZ (zs : List Z) (A : ZH) : R Z := match zs with
  | [.str s] => if s.length ≤ sizeLine then .ok (.int (s.length : Nat)) A else .no
  | [.tup xs] => .ok (.int (xs.length : Nat)) A
  | [.lit xs] => .ok (.int (xs.length : Nat)) A
  | [.ref n] => match A.get n with
    | some (.lst xs) => .ok (.int (xs.length : Nat)) A
    | some (.dct kvs) => .ok (.int (kvs.length : Nat)) A
    | _ => .no
  | _ => .no
def rLenA (K : PySem.W.Frag) : List V → Hp → VK → Prop := fun xs H Q => (∃ x n, xs = [x] ∧ LenV K x H n ∧ Q (.int n) H) ∨ ∃ d kvs, xs = [V.ref d] ∧ H d = some (.dK kvs) ∧ Q (.int kvs.length) H
theorem RKs.length {ρ : List Addr} {H : Hp} : ∀ {l : List (Z × Z)} {l' : List (Key × V)}, RKs g ρ H l l' → l.length = l'.length
  | _, _, .nil => rfl
  | _, _, .cons _ _ t => by rw [List.length_cons, List.length_cons, RKs.length t]
theorem c_len (hK : X.K = g.K := by rfl) : CallR X (.builtin "len") (rLenA g.K) := by
  rw [← hK]
  intro pins s σ H xs us Q J r h
  rcases h with h | ⟨dd, kvs, e, k, q⟩
  · exact call_len pins s σ H xs us Q J r h
  · exact call_lenD pins s σ H xs us Q J r ⟨dd, kvs, e, k, q⟩
theorem z_len : CallZ g (rLenA g.K) lenZ := fun W σ ρ A H zs vs Q R r h => by
  cases r with
  | nil => exact h.elim
  | @cons z v zs vs r t =>
    cases t with
    | cons _ _ => cases r <;> exact h.elim
    | nil =>
      cases r with
      | str s =>
        have h : OutR g W σ ρ H (relZ g) Q (if s.length ≤ sizeLine then .ok (.int (s.length : Nat)) A else .no) := h
        by_cases hs : s.length ≤ sizeLine
        · rw [if_pos hs] at h
          exact .inl ⟨_, s.length, rfl, ⟨hs, rfl⟩, h ρ H _ (.refl _ _) R (.int _)⟩
        · rw [if_neg hs] at h
          exact h.elim
      | tup r t => exact .inl ⟨_, _, rfl, .inr ⟨_, t.sq, r.length⟩, h ρ H _ (.refl _ _) R (.int _)⟩
      | lit r t => exact .inl ⟨_, _, rfl, .inl ⟨_, t.sq, r.length⟩, h ρ H _ (.refl _ _) R (.int _)⟩
      | @ref n a ha =>
        unfold lenZ at h
        dsimp only at h
        cases q1 : A.get n with
        | none => rw [q1] at h; exact h.elim
        | some o1 =>
          rw [q1] at h
          cases o1 with
          | lst xs =>
            obtain ⟨vs, k1, k2⟩ := R.lst ha q1
            exact .inl ⟨_, _, rfl, .inl ⟨vs, SqL.of k1, k2.length⟩, h ρ H _ (.refl _ _) R (.int _)⟩
          | dct kvs =>
            obtain ⟨ks, k1, k2⟩ := R.dct ha q1
            exact .inr ⟨a, ks, rfl, k1, by rw [← k2.length]; exact h ρ H _ (.refl _ _) R (.int _)⟩
          | _ => exact h.elim
      | _ => exact h.elim
/-- abs, int -/
def absZ (zs : List Z) (A : ZH) : R Z := match zs with
  | [.int i] => .ok (.int (if i < 0 then -i else i)) A
  | _ => .no
theorem z_abs : CallZ g (fun xs H Q => ∃ i, xs = [.int i] ∧ Q (.int (if i < 0 then -i else i)) H) absZ := fun W σ ρ A H zs vs Q R r h => by
  cases r with
  | nil => exact h.elim
  | @cons z v zs vs r t =>
    cases t with
    | cons _ _ => cases r <;> exact h.elim
    | nil =>
      cases r with
      | int i => exact ⟨i, rfl, h ρ H _ (.refl _ _) R (.int _)⟩
      | _ => exact h.elim
def intfZ (zs : List Z) (A : ZH) : R Z := match zs with
  | [.int i] => .ok (.int i) A
  | [.bl k] => .ok (.int (if k then 1 else 0)) A
  | _ => .no
theorem z_intf : CallZ g (fun xs H Q => (∃ i, xs = [.int i] ∧ Q (.int i) H) ∨ ∃ k, xs = [.bl k] ∧ Q (.int (if k then 1 else 0)) H) intfZ := fun W σ ρ A H zs vs Q R r h => by
  cases r with
  | nil => exact h.elim
  | @cons z v zs vs r t =>
    cases t with
    | cons _ _ => cases r <;> exact h.elim
    | nil =>
      cases r with
      | int i => exact .inl ⟨i, rfl, h ρ H _ (.refl _ _) R (.int _)⟩
      | bl i => exact .inr ⟨i, rfl, h ρ H _ (.refl _ _) R (.int _)⟩
      | _ => exact h.elim
/-- tuple(..), list(..) of lists and tuples -/
def tupfZ (zs : List Z) (A : ZH) : R Z := match zs with
  | [.tup xs] => .ok (.tup xs) A
  | [.lit xs] => .ok (.tup xs) A
  | [.ref n] => match A.get n with
    | some (.lst xs) => .ok (.tup xs) A
    | _ => .no
  | _ => .no
theorem c_tup (hK : X.K = g.K := by rfl) : CallR X (.type "tuple") (fun xs H Q => ∃ p ys, xs = [.ref p] ∧ ((SqL g.K H p ys ∧ ∀ l, H l = none → Q (.ref l) (upd H l (.tup ys))) ∨ (SqT g.K H p ys ∧ Q (.ref p) H))) := by
  rw [← hK]
  exact call_tuple_of
theorem z_tup : CallZ g (fun xs H Q => ∃ p ys, xs = [.ref p] ∧ ((SqL g.K H p ys ∧ ∀ l, H l = none → Q (.ref l) (upd H l (.tup ys))) ∨ (SqT g.K H p ys ∧ Q (.ref p) H))) tupfZ := fun W σ ρ A H zs vs Q R r h => by
  cases r with
  | nil => exact h.elim
  | @cons z v zs vs r t =>
    cases t with
    | cons _ _ => cases r <;> exact h.elim
    | nil =>
      cases r with
      | tup r t => exact ⟨_, _, rfl, .inr ⟨t.sq, h ρ H _ (.refl _ _) R (.tup r t)⟩⟩
      | lit r t => exact ⟨_, _, rfl, .inl ⟨t.sq, fun l hl => new_tup R r h l hl⟩⟩
      | @ref n a ha =>
        unfold tupfZ at h
        dsimp only at h
        cases q1 : A.get n with
        | none => rw [q1] at h; exact h.elim
        | some o1 =>
          rw [q1] at h
          cases o1 with
          | lst xs =>
            obtain ⟨vs, k1, k2⟩ := R.lst ha q1
            exact ⟨_, _, rfl, .inl ⟨SqL.of k1, fun l hl => new_tup R k2 h l hl⟩⟩
          | _ => exact h.elim
      | _ => exact h.elim
def lstfZ (zs : List Z) (A : ZH) : R Z := match zs with
  | [.tup xs] => .ok (.ref A.n) (A.push (.lst xs))
  | [.lit xs] => .ok (.ref A.n) (A.push (.lst xs))
  | [.ref n] => match A.get n with
    | some (.lst xs) => .ok (.ref A.n) (A.push (.lst xs))
    | _ => .no
  | _ => .no
theorem c_lst (hK : X.K = g.K := by rfl) : CallR X (.type "list") (fun xs H Q => ∃ p ys, xs = [.ref p] ∧ (SqL g.K H p ys ∨ SqT g.K H p ys) ∧ ∀ l, H l = none → Q (.ref l) (upd H l (.lst ys))) := by
  rw [← hK]
  exact call_list_of
theorem z_lst : CallZ g (fun xs H Q => ∃ p ys, xs = [.ref p] ∧ (SqL g.K H p ys ∨ SqT g.K H p ys) ∧ ∀ l, H l = none → Q (.ref l) (upd H l (.lst ys))) lstfZ := fun W σ ρ A H zs vs Q R r h => by
  cases r with
  | nil => exact h.elim
  | @cons z v zs vs r t =>
    cases t with
    | cons _ _ => cases r <;> exact h.elim
    | nil =>
      cases r with
      | tup r t => exact ⟨_, _, rfl, .inr t.sq, fun l hl => new_lst R r h l hl⟩
      | lit r t => exact ⟨_, _, rfl, .inl t.sq, fun l hl => new_lst R r h l hl⟩
      | @ref n a ha =>
        unfold lstfZ at h
        dsimp only at h
        cases q1 : A.get n with
        | none => rw [q1] at h; exact h.elim
        | some o1 =>
          rw [q1] at h
          cases o1 with
          | lst xs =>
            obtain ⟨vs, k1, k2⟩ := R.lst ha q1
            exact ⟨_, _, rfl, .inl (SqL.of k1), fun l hl => new_lst R k2 h l hl⟩
          | _ => exact h.elim
      | _ => exact h.elim

/-! ### isinstance of built-in types -/
inductive BT where
  | non | bl | int | str | tup | lst | dct
  deriving DecidableEq
def BT.nm : BT → String
  | .non => "NoneType" | .bl => "bool" | .int => "int" | .str => "str" | .tup => "tuple" | .lst => "list" | .dct => "dict"
def isB (t T : BT) : Bool := decide (t = T) || (decide (t = .bl) && decide (T = .int))
theorem isB_kit (t T : BT) : kitB t.nm T.nm = some (isB t T) := by cases t <;> cases T <;> decide +kernel
def tyZ (z : Z) (A : ZH) : Option BT := match z with
  | .non => some .non
  | .bl _ => some .bl
  | .int _ => some .int
  | .str _ => some .str
  | .tup _ => some .tup
  | .lit _ => some .lst
  | .ref n => match A.get n with
    | some (.lst _) => some .lst
    | some (.dct _) => some .dct
    | _ => none
  | .cod _ => none
theorem ty_ok {ρ : List Addr} {A : ZH} {H : Hp} {z : Z} {v : V} {t : BT} (R : RH g ρ A H) (r : RZ g ρ H z v) (h : tyZ z A = some t) : TyX g.K H v (.type t.nm) := by
  cases r with
  | non => cases h; exact .base .non
  | bl b => cases h; exact .base (.bl b)
  | int b => cases h; exact .base (.int b)
  | str b => cases h; exact .base (.str b)
  | tup r q =>
    cases h
    rcases q with q | ⟨o, its, n, q1, q2, _⟩
    · exact .base (.tup q)
    · exact .kTuple q1 q2
  | lit r q =>
    cases h
    rcases q with ⟨ob, q⟩ | ⟨o, its, n, q1, q2, _⟩
    · exact .base (.frz q)
    · exact .kList q1 q2
  | @ref n a ha =>
    unfold tyZ at h
    dsimp only at h
    cases q1 : A.get n with
    | none => rw [q1] at h; cases h
    | some o1 =>
      rw [q1] at h
      cases o1 with
      | lst xs =>
        cases h
        obtain ⟨vs, k1, k2⟩ := R.lst ha q1
        exact .base (.lst k1)
      | dct kvs =>
        cases h
        obtain ⟨ks, k1, k2⟩ := R.dct ha q1
        exact .base (.dK k1)
      | _ => cases h
  | cod _ => cases h
def dIsi (T : BT) (d : DE) : DE := fun fr A => (d fr A).bd fun z A1 => match tyZ z A1 with
  | some t => .ok (.bl (isB t T)) A1
  | none => .no
theorem e_isi {T : BT} {TN : Str} {pT : Pos} (he : SE X g xi W e d) (hm : X.mg "isinstance" = none) (hT : X.mg TN = none) (hv : bootBuiltins TN = some (.type T.nm)) (hK : X.K = g.K := by rfl) (hg : Gl X "isinstance" := by rfl) (hgT : Gl X TN := by rfl) (hnT : TN ≠ "__name__" := by decide) (hdT : (TN == ("__debug__" : Str)) = false := by decide)
    (hv0 : bootBuiltins "isinstance" = some (.builtin "isinstance") := by decide +kernel) (hs : starEach [e, .Name TN pT] X.env = (false, eval e X.env) :: starEach [.Name TN pT] X.env := by rfl) (hs2 : starEach [.Name TN pT] X.env = (false, eval (.Name TN pT) X.env) :: starEach [] X.env := by rfl)
    (hpl : (backTo pos (starEach [.Name TN pT] X.env)).any (·.1) = false := by rfl) : SE X g xi W (.Call (.Name "isinstance" p) [e, .Name TN pT] [] pos) (dIsi T d) := by
  refine PE.imp (pe_callB call_isi hg hm hv0 (pa_cons he (pa_cons (pe_bltn (v := .ty T.nm) hgT hT hv rfl hnT hdT) pa_nil hs2) hs) (by decide) (by decide) hs hpl) fun σ H Q h => ?_
  obtain ⟨ρ, fr, A, hf, hr, h⟩ := h
  refine bd_run hf hr h fun z A1 ρ1 H1 v e1 hf1 hr1 rz ho1 => ?_
  cases q : tyZ z A1 with
  | none => rw [q] at ho1; exact ho1.elim
  | some t =>
    rw [q] at ho1
    rw [hK]
    exact ⟨v, .ty T.nm, _, _, _, rfl, .ty _, ty_ok hr1 rz q, kit_ty (isB_kit t T), ho1 ρ1 H1 _ (.refl _ _) hr1 (.bl _)⟩
/-- .. of two types -/
def dIsi2 (T U : BT) (d : DE) : DE := fun fr A => (d fr A).bd fun z A1 => match tyZ z A1 with
  | some t => .ok (.bl (isB t T || isB t U)) A1
  | none => .no
theorem e_isi2 {T U : BT} {TN UN : Str} {pT pU pt : Pos} {kt : Nat} (he : SE X g xi W e d) (hm : X.mg "isinstance" = none) (hT : X.mg TN = none) (hU : X.mg UN = none) (hv : bootBuiltins TN = some (.type T.nm)) (hw : bootBuiltins UN = some (.type U.nm)) (hK : X.K = g.K := by rfl) (hg : Gl X "isinstance" := by rfl) (hgT : Gl X TN := by rfl) (hgU : Gl X UN := by rfl)
    (hnT : TN ≠ "__name__" := by decide) (hdT : (TN == ("__debug__" : Str)) = false := by decide) (hnU : UN ≠ "__name__" := by decide) (hdU : (UN == ("__debug__" : Str)) = false := by decide)
    (hv0 : bootBuiltins "isinstance" = some (.builtin "isinstance") := by decide +kernel) (hs : starEach [e, .Tuple [.Name TN pT, .Name UN pU] kt pt] X.env = (false, eval e X.env) :: starEach [.Tuple [.Name TN pT, .Name UN pU] kt pt] X.env := by rfl)
    (hs2 : starEach [.Tuple [.Name TN pT, .Name UN pU] kt pt] X.env = (false, eval (.Tuple [.Name TN pT, .Name UN pU] kt pt) X.env) :: starEach [] X.env := by rfl) (hs3 : starEach [.Name TN pT, .Name UN pU] X.env = (false, eval (.Name TN pT) X.env) :: starEach [.Name UN pU] X.env := by rfl) (hs4 : starEach [.Name UN pU] X.env = (false, eval (.Name UN pU) X.env) :: starEach [] X.env := by rfl)
    (hpl : (backTo pos (starEach [.Tuple [.Name TN pT, .Name UN pU] kt pt] X.env)).any (·.1) = false := by rfl) : SE X g xi W (.Call (.Name "isinstance" p) [e, .Tuple [.Name TN pT, .Name UN pU] kt pt] [] pos) (dIsi2 T U d) := by
  refine PE.imp (pe_callB call_isiT hg hm hv0 (pa_cons he (pa_cons (pe_tup (pa_cons (pe_bltn (v := .ty T.nm) hgT hT hv rfl hnT hdT) (pa_cons (pe_bltn (v := .ty U.nm) hgU hU hw rfl hnU hdU) pa_nil hs4) hs3)) pa_nil hs2) hs) (by decide) (by decide) hs hpl) fun σ H Q h => ?_
  obtain ⟨ρ, fr, A, hf, hr, h⟩ := h
  refine bd_run hf hr h fun z A1 ρ1 H1 v e1 hf1 hr1 rz ho1 => ?_
  cases q : tyZ z A1 with
  | none => rw [q] at ho1; exact ho1.elim
  | some t =>
    rw [q] at ho1
    rw [hK]
    refine ⟨by show 2 ≤ sizeLine; decide, fun p hp => ?_⟩
    obtain ⟨R', e'⟩ := upd_tup (o := .tup [.ty T.nm, .ty U.nm]) hr1 hp
    refine ⟨v, p, _, _, _, _, rfl, upd_same, .cons (.ty _) (.cons (.ty _) .nil), ty_ok R' (rz.mono e') q, kitAny_cons (b := isB t T) (kit_ty (isB_kit t T)) (fun e0 => kitAny_cons (b := isB t U) (kit_ty (isB_kit t U)) (fun e1 => ?_) (fun e1 => ?_)) (fun e0 => ?_), ho1 ρ1 _ _ e' R' (.bl _)⟩
    · rw [e0, e1]; exact kitAny_nil
    · rw [e0, e1]; rfl
    · rw [e0]; rfl

/-! ### methods of built-in types -/
def dBM (ty : Z → ZH → Bool) (f : Z → List Z → ZH → R Z) (dO : DE) (da : DA) : DE := fun fr A => (dO fr A).bd fun z A1 => if ty z A1 = true then (da fr A1).bd fun zs A2 => f z zs A2 else .no
def TyZ (g : G) (T : String) (ty : Z → ZH → Bool) : Prop := ∀ (ρ : List Addr) (A : ZH) (H : Hp) (z : Z) (v : V), RH g ρ A H → RZ g ρ H z v → ty z A = true → tyV g.K T v H
def MtZ (g : G) (r : V → List V → Hp → VK → Prop) (f : Z → List Z → ZH → R Z) : Prop :=
  ∀ (W : WX) (σ : St) (ρ : List Addr) (A : ZH) (H : Hp) (z : Z) (v : V) (zs : List Z) (vs : List V) (Q : VK), RH g ρ A H → RZ g ρ H z v → RZs g ρ H zs vs → OutR g W σ ρ H (relZ g) Q (f z zs A) → r v vs H Q
theorem e_bm {T id : String} {name : Str} {r : V → List V → Hp → VK → Prop} {ty : Z → ZH → Bool} {f : Z → List Z → ZH → R Z} {cpos : Pos} (pa : PlainAttrs T) (slot : Slot T name id) (hty : typeOf (.builtin id) = pure (.type "method_descriptor")) (hm : MtR X id r) (ht : TyZ g T ty) (hz : MtZ g r f) (ho : SE X g xi W o dO) (ha : SA X g xi W (e :: es) dr) (hK : X.K = g.K := by rfl)
    (hbase : attributeBase o name X.env (eval o X.env) = eval o X.env := by rfl)
    (hfew : ((backTo cpos (starEach (e :: es) X.env)).all (fun y => !y.1) && (backToKw cpos (keywordEach [] X.env)).all (fun y => y.1.isSome) && decide ((e :: es).length + ([] : List Keyword).length + (if ([] : List Keyword).isEmpty then 0 else 1) < 30)) = true := by rfl)
    (hline : (apos.endLine == cpos.line) = true := by rfl) (hs : starEach (e :: es) X.env = (false, eval e X.env) :: starEach es X.env := by rfl) (hplain : (backTo cpos (starEach es X.env)).any (·.1) = false := by rfl) : SE X g xi W (.Call (.Attribute o name apos) (e :: es) [] cpos) (dBM ty f dO dr) := by
  refine PE.imp (pe_bm pa slot hty hm ho ha hbase hfew hline hs hplain) fun σ H Q h => ?_
  obtain ⟨ρ, fr, A, hf, hr, h⟩ := h
  refine bd_run hf hr h fun z A1 ρ1 H1 v e1 hf1 hr1 rz ho1 => ?_
  by_cases c : ty z A1 = true
  · rw [if_pos c] at ho1
    refine ⟨by rw [hK]; exact ht ρ1 A1 H1 z v hr1 rz c, ?_⟩
    refine bd_run hf1 hr1 ho1 fun zs A2 ρ2 H2 vs e2 hf2 hr2 rzs ho2 => ?_
    exact hz W σ ρ2 A2 H2 z v zs vs Q hr2 (rz.mono e2) rzs ho2
  · rw [if_neg c] at ho1
    exact ho1.elim
theorem e_bm0 {T id : String} {name : Str} {r : V → List V → Hp → VK → Prop} {ty : Z → ZH → Bool} {f : Z → List Z → ZH → R Z} {cpos : Pos} (pa : PlainAttrs T) (slot : Slot T name id) (hty : typeOf (.builtin id) = pure (.type "method_descriptor")) (hm : MtR X id r) (ht : TyZ g T ty) (hz : MtZ g r f) (ho : SE X g xi W o dO) (hK : X.K = g.K := by rfl)
    (hbase : attributeBase o name X.env (eval o X.env) = eval o X.env := by rfl) (hline : (apos.endLine == cpos.line) = true := by rfl) : SE X g xi W (.Call (.Attribute o name apos) [] [] cpos) (dBM ty f dO dNil) := by
  refine PE.imp (pe_bm0 pa slot hty hm ho hbase hline) fun σ H Q h => ?_
  obtain ⟨ρ, fr, A, hf, hr, h⟩ := h
  refine bd_run hf hr h fun z A1 ρ1 H1 v e1 hf1 hr1 rz ho1 => ?_
  by_cases c : ty z A1 = true
  · rw [if_pos c] at ho1
    exact ⟨by rw [hK]; exact ht ρ1 A1 H1 z v hr1 rz c, hz W σ ρ1 A1 H1 z v [] [] Q hr1 rz .nil ho1⟩
  · rw [if_neg c] at ho1
    exact ho1.elim
def isL (z : Z) (A : ZH) : Bool := (itemsZ z A).isSome
theorem ty_L : TyZ g "list" isL := fun ρ A H z v R r h => by
  obtain ⟨xs, q⟩ := Option.isSome_iff_exists.mp h
  obtain ⟨a, vs, rfl, k1, k2⟩ := items_ok R r q
  exact .inl ⟨rfl, vs, k1⟩
def appZ (o : Z) (zs : List Z) (A : ZH) : R Z := match o, zs with
  | .ref n, [z] => match A.get n with
    | some (.lst xs) => if xs.length < sizeLine then .ok .non (A.set n (.lst (xs ++ [z]))) else .no
    | _ => .no
  | _, _ => .no
theorem z_app : MtZ g rAppend appZ := fun W σ ρ A H o v zs vs Q R ro rs h => by
  cases ro with
  | @ref n a ha =>
    cases rs with
    | nil => exact h.elim
    | @cons z w zs ws r t =>
      cases t with
      | cons _ _ => exact h.elim
      | nil =>
        unfold appZ at h
        dsimp only at h
        cases q1 : A.get n with
        | none => rw [q1] at h; exact h.elim
        | some o1 =>
          rw [q1] at h
          cases o1 with
          | lst xs =>
            dsimp only at h
            by_cases c : xs.length < sizeLine
            · rw [if_pos c] at h
              obtain ⟨us, k1, k2⟩ := R.lst ha q1
              obtain ⟨R', e'⟩ := R.upd ha (.lst (k2.append (.cons r .nil))) fun C dx ks z => by cases z
              exact ⟨a, us, w, rfl, rfl, k1, by rw [← k2.length]; exact c, h ρ _ _ e' R' .non⟩
            · rw [if_neg c] at h
              exact h.elim
          | _ => exact h.elim
  | _ => cases zs <;> exact h.elim
end
end Zed

/-! Zed A: exceptions: raise, try with any mix of clauses. -/
namespace Zed
open PySem PyProof.Rows L2

/-! ### try, the layer's own rule for clauses with and without a name -/
abbrev HT3 := Value × Option Nat × (Addr → Value → Option Addr → TS)
def unbE (i : Nat) (D : Ends) : Ends := { nx := fun σ' H' => D.nx (σ'.set i none) H', rt := D.rt, bk := fun σ' H' => D.bk (σ'.set i none) H', ct := fun σ' H' => D.ct (σ'.set i none) H' }
def wHs (K : PySem.W.Frag) (out : WX) (D : Ends) : List HT3 → WX
  | [] => out
  | (c, i, ts) :: r => fun cls d σ H => ∃ b, PySem.W.exmOne K cls c = some b ∧ (b = true → ∀ a, H a = none → (match i with
      | none => ts a cls d D σ H
      | some i => ts a cls d (unbE i D) (σ.set i (some (.ref a))) H)) ∧ (b = false → wHs K out D r cls d σ H)
inductive HdZ (X : Cx) : List ExceptHandler → List HT3 → Prop
  | nil : HdZ X [] []
  | bare {x : Str} {c : Value} {ts : Addr → Value → Option Addr → TS} {s0 : Stmt} {ss : List Stmt} {p1 p2 : Pos} {hs : List ExceptHandler} {l : List HT3} (nm : Names X x c)
      (su : ∀ (a : Addr) (oe : Obj) (cls : Value) (d : Option Addr) (pn : List (Addr × Obj)), Zc cls d oe → (∃ vs, oe.data = .fields vs) → PSs (X.suite a ((a, oe) :: pn)) (s0 :: ss) (ts a cls d)) (r : HdZ X hs l) :
      HdZ X (.ExceptHandler (some (.Name x p1)) none (s0 :: ss) p2 :: hs) ((c, none, ts) :: l)
  | named {x n : Str} {i : Nat} {c : Value} {ts : Addr → Value → Option Addr → TS} {s0 : Stmt} {ss : List Stmt} {p1 p2 : Pos} {hs : List ExceptHandler} {l : List HT3} (nm : Names X x c) (hi : X.N[i]? = some n) (hl : X.env.kindOf n = some .local)
      (su : ∀ (a : Addr) (oe : Obj) (cls : Value) (d : Option Addr) (pn : List (Addr × Obj)), Zc cls d oe → (∃ vs, oe.data = .fields vs) → PSs (X.suite a ((a, oe) :: pn)) (s0 :: ss) (ts a cls d)) (r : HdZ X hs l) :
      HdZ X (.ExceptHandler (some (.Name x p1)) (some n) (s0 :: ss) p2 :: hs) ((c, some i, ts) :: l)
theorem not_frame {B h : Heap} {l : List Env} {a : Addr} {o : Obj} {vs : Array Value} (ff : h.FunFrames B l) (e : h.get? a = some o) (dd : o.data = .fields vs) : a ∉ frs l := fun hm => by
  obtain ⟨_, o', e', hnf⟩ := ff.mem hm
  rw [e] at e'
  cases e'
  exact hnf _ dd
section
variable {X : Cx} {body : List Stmt} {h0 : ExceptHandler} {hds : List ExceptHandler} {l : List HT3} {pos : Pos} {tb : WX → TS} {out : WX}
theorem ps_tryZ (stk : X.stack = X.env :: X.outer) (frm : X.env.frame = some X.env.locals) (nd : X.N.Nodup) (tk : Takes X out)
    (bd : ∀ (W : WX) (pn : List (Addr × Obj)) (xe : Value → Shared → Prop), Takes (X.tr pn xe) W → PassesOwn (model X.prog X.w) X.A X.env xe → PSs (X.tr pn xe) body (tb W))
    (hd : HdZ X (h0 :: hds) l) : PS X (.Try body (h0 :: hds) [] [] pos) (fun D σ H => tb (wHs X.K out D l) D σ H) := by
  constructor
  intro pins s σ H D J h
  have ok := J.ok
  have frms : X.A.frames = some (X.env :: X.outer) := ok.frames.trans (congrArg some stk)
  apply wpAny_Try_except
  have taken : Takes (X.tr (X.pn ++ pins) (fun e s₁ => wpAny (model X.prog X.w) X.A (noteFrame e X.env) (fun _ s₂ => wpAny (model X.prog X.w) X.A (setFlight e none) (fun _ s₃ =>
      wpAny (model X.prog X.w) X.A (handleBy e X.env (h0 :: hds)) (SP X pins D) X.xe s₃) X.xe s₂) X.xe s₁)) (wHs X.K out D l) := by
    intro u s' xx
    obtain ⟨a, B, sI, pins', σ', H', cls, d, rfl, J', nb, up, sky, na, os, ag, w⟩ := xx
    have J1 : Inv X pins σ' H' sI := J'.ofTry ok
    have sky1 : Sky B (X.env :: X.outer) a (Zc cls d) X.env.locals s'.heap := stk ▸ sky
    show wpAny (model X.prog X.w) X.A (noteFrame (.ref a) X.env) _ _ _
    refine Sky.land Zc.steady frms frm sky1 ?_
    intro h3 fl3 up3
    have J3 : Inv X pins σ' H' { s' with heap := h3 } := J1.landed nb fl3.1 (up.trans up3) os ag
    obtain ⟨oe3, vs3, he3, hz3, hd3⟩ := fl3.there
    have nfr := not_frame fl3.2.2.1 he3 hd3
    have nL : a ≠ X.env.locals := fun z => nfr (List.mem_filterMap.mpr ⟨X.env, List.mem_cons_self, frm.trans (congrArg some z.symm)⟩)
    have nF : a ∉ X.fs := fun hm => by
      obtain ⟨e, he, q⟩ := List.mem_filterMap.mp hm
      exact nfr (List.mem_filterMap.mpr ⟨e, List.mem_cons_of_mem _ he, q⟩)
    have S3 := J3.suite he3 hd3 na nL nF
    -- how a clause's class is looked up
    have look : ∀ {x : Str} {c : Value} {p1 : Pos}, Names X x c → ∀ {Q : Value → Shared → Prop} {E : Value → Shared → Prop}, Q c { s' with heap := h3 } →
        wpAny (model X.prog X.w) (X.A.mark (some (.ref a))) (eval (.Name x p1) X.env) Q E { s' with heap := h3 } := by
      intro x c p1 nm Q E q
      obtain ⟨gl, dbg, hm | ⟨hm, hv, hnn⟩⟩ := nm
      · exact ld_glob (X := X.suite a ((a, oe3) :: (X.pn ++ pins))) S3 gl hm q dbg
      · exact ld_blt (X := X.suite a ((a, oe3) :: (X.pn ++ pins))) S3 gl hm hv q hnn dbg
    have LT : PySem.W.Looks (model X.prog X.w) h3 (typeOf (.ref a)) cls := fun A Q E s k q => wpAny_typeOf_ref (k _ _ he3) (by rw [hz3.1]; exact q)
    have all : ∀ {hs' : List ExceptHandler} {l' : List HT3}, HdZ X hs' l' → wHs X.K out D l' cls d σ' H' → wpAny (model X.prog X.w) X.A (handleBy (.ref a) X.env hs') (SP X pins D) X.xe { s' with heap := h3 } := by
      intro hs' l' hk
      induction hk with
      | nil =>
        intro w
        apply wpAny_handleBy_nil
        obtain ⟨k1, k2, k3, oe, vs, T, oT, ts', he, hz, hd, h1, hr⟩ := id fl3
        have on : wpAny (model X.prog X.w) X.A (setFlight (.ref a) X.env.frame) (fun _ s4 => wpAny (model X.prog X.w) X.A (throw (.ref a) : Sem Flow) (SP X pins D) X.xe s4) X.xe { s' with heap := h3 } := by
          rw [frm]
          refine HandSPX.setFlight_upZ fl3 ?_
          intro h4 hh4 up4
          refine wpAny_throw (tk _ _ ⟨a, B, sI, pins, σ', H', cls, d, rfl, J1, nb, (up.trans up3).trans up4, ?_, na, os, ag, w⟩)
          rw [stk]
          exact .inr (.inr hh4)
        unfold PySem.passOn
        refine wpAny_bind (wpAny_field he hd h1 ?_)
        rw [if_neg (show ¬ ((Value.ref T == Value.none) = true) from by simp)]
        first
          | exact wpAny_bind (wpAny_pure (wpAny_bind on))
          | exact wpAny_bind on
      | @bare x c ts s0 ss p1 p2 hs2 l2 nm su r ih =>
        intro w
        obtain ⟨b, hb1, yes, no⟩ := w
        refine wpAny_handleBy_cons (codeAny_handlers_test ?_) (by intro q; cases q)
        refine look nm ((PySem.W.exm_one (M := model X.prog X.w) (J3.kIn) LT hb1).here ?_)
        cases b with
        | false => exact ih (no rfl)
        | true =>
          refine codeAny_handlers_suite (HandSPX.lands_againZ fl3 ?_)
          intro h4 fl4 up4
          have J4 : Inv X pins σ' H' { s' with heap := h4 } := J1.landed nb fl4.1 ((up.trans up3).trans up4) os ag
          obtain ⟨oe4, vs4, he4, hz4, hd4⟩ := fl4.there
          have S4 := J4.suite he4 hd4 na nL nF
          refine wpAny_mono ((su a oe4 cls d (X.pn ++ pins) hz4 ⟨_, hd4⟩).run [] _ _ H' _ S4 (yes rfl a na)) ?_ (fun _ _ z => False.elim z)
          intro f s6 sp
          match f, sp with
          | .next, ⟨σ6, H6, S6, q6⟩ => exact ⟨_, _, S6.unsuite ok, q6⟩
          | .brk, ⟨σ6, H6, S6, q6⟩ => exact ⟨_, _, S6.unsuite ok, q6⟩
          | .cont, ⟨σ6, H6, S6, q6⟩ => exact ⟨_, _, S6.unsuite ok, q6⟩
          | .ret u, ⟨v6, σ6, H6, S6, r6, q6⟩ => exact ⟨_, _, _, S6.unsuite ok, r6, q6⟩
      | @named x n i c ts s0 ss p1 p2 hs2 l2 nm hi hl su r ih =>
        intro w
        obtain ⟨b, hb1, yes, no⟩ := w
        refine wpAny_handleBy_cons (codeAny_handlers_test ?_) (by intro q; cases q)
        refine look nm ((PySem.W.exm_one (M := model X.prog X.w) (J3.kIn) LT hb1).here ?_)
        cases b with
        | false => exact ih (no rfl)
        | true =>
          refine codeAny_handlers_suite_as (HandSPX.lands_againZ fl3 ?_)
          intro h4 fl4 up4
          have J4 : Inv X pins σ' H' { s' with heap := h4 } := J1.landed nb fl4.1 ((up.trans up3).trans up4) os ag
          obtain ⟨oe4, vs4, he4, hz4, hd4⟩ := fl4.there
          have S4 := J4.suite he4 hd4 na nL nF
          refine store_ok (X := X.suite a ((a, oe4) :: (X.pn ++ pins))) (v := .ref a) S4 nd hi (.inl hl) rfl ?_ (.inr hl)
          intro s5 S5
          refine wpAny_mono ((su a oe4 cls d (X.pn ++ pins) hz4 ⟨_, hd4⟩).run [] s5 _ H' _ S5 (yes rfl a na)) ?_ (fun _ _ z => False.elim z)
          intro f s6 sp
          have fin : ∀ {σ6 : St} {H6 : Hp} {Q : Shared → Prop}, Inv (X.suite a ((a, oe4) :: (X.pn ++ pins))) [] σ6 H6 s6 → (∀ s7, Inv X pins (σ6.set i none) H6 s7 → Q s7) →
              wpAny (model X.prog X.w) X.A (do bindName X.env n .none; unbindBehindTheSuite X.env n p2) (fun _ s7 => Q s7) X.xe s6 := fun {σ6 H6 Q} S6 q => gone_ok (S6.unsuite ok) nd hi hl q
          match f, sp with
          | .next, ⟨σ6, H6, S6, q6⟩ => exact fin S6 fun s7 J7 => ⟨_, _, J7, q6⟩
          | .brk, ⟨σ6, H6, S6, q6⟩ => exact fin S6 fun s7 J7 => ⟨_, _, J7, q6⟩
          | .cont, ⟨σ6, H6, S6, q6⟩ => exact fin S6 fun s7 J7 => ⟨_, _, J7, q6⟩
          | .ret u, ⟨v6, σ6, H6, S6, r6, q6⟩ => exact fin S6 fun s7 J7 => ⟨_, _, _, J7, r6, q6⟩
    exact all hd w
  refine wpAny_mono ((bd (wHs X.K out D l) (X.pn ++ pins) _ taken PassesOwn.looking).run [] s σ H D (J.toTry _) h) ?_ (fun _ _ he => he)
  intro f s1 sp
  match f, sp with
  | .next, ⟨σ', H', J', q⟩ => exact wpAny_execs_nil ⟨σ', H', J'.ofTry ok, q⟩
  | .brk, ⟨σ', H', J', q⟩ => exact ⟨σ', H', J'.ofTry ok, q⟩
  | .cont, ⟨σ', H', J', q⟩ => exact ⟨σ', H', J'.ofTry ok, q⟩
  | .ret u, ⟨v, σ', H', J', r, q⟩ => exact ⟨v, σ', H', J'.ofTry ok, r, q⟩
end

/-! ### as a denotation -/
/-- clauses: the numbers of the classes that they name (with those below), the name's slot, the suite -/
abbrev HZ := (Nat → Option Bool) × Option Nat × DS
def Sl.clr : Sl → Sl
  | .xc _ _ => .un
  | s => s
/-- behind a suite no slot holds the exception -/
def clrF (fr : Fr) : Fr := fr.map Sl.clr
def RS.clr : RS → RS
  | .nx fr A => .nx (clrF fr) A
  | .bk fr A => .bk (clrF fr) A
  | .ct fr A => .ct (clrF fr) A
  | r => r
def RS.unb (i : Nat) : RS → RS
  | .nx fr A => .nx (clrF (fr.set i .un)) A
  | .bk fr A => .bk (clrF (fr.set i .un)) A
  | .ct fr A => .ct (clrF (fr.set i .un)) A
  | r => r
/-- a suite raises nothing -/
def RS.suit : RS → RS
  | .ex _ _ _ => .no
  | r => r
def dHs (x : ZX) (fr : Fr) (A : ZH) : List HZ → RS
  | [] => .ex x fr A
  | (m, i, su) :: r => match m x.1 with
    | none => .no
    | some false => dHs x fr A r
    | some true => match i with
      | none => (su fr A).suit.clr
      | some i => (su (fr.set i (.xc x.1 x.2)) A).suit.unb i
def dTry (b : DS) (hs : List HZ) : DS := fun fr A => match b fr A with
  | .ex x fr1 A1 => dHs x fr1 A1 hs
  | r => r
section
variable {X : Cx} {g : G} {W : WX} {body : List Stmt} {h0 : ExceptHandler} {hds : List ExceptHandler} {hs : List HZ} {pos : Pos} {db : DS}
/-- a suite's reading -/
def rdU (g : G) (su : DS) (a : Addr) (cls : Value) (d : Option Addr) : TS := rdS g (some (a, cls, d)) Wn su
inductive HdD (X : Cx) (g : G) : List ExceptHandler → List HZ → List HT3 → Prop
  | nil : HdD X g [] [] []
  | bare {x : Str} {c : Value} {m : Nat → Option Bool} {su : DS} {s0 : Stmt} {ss : List Stmt} {p1 p2 : Pos} {hs : List ExceptHandler} {l : List HZ} {l3 : List HT3} (nm : Names X x c) (hm : ∀ k b, m k = some b → PySem.W.exmOne g.K (.ref (g.cls k)) c = some b)
      (hu : ∀ (a : Addr) (oe : Obj) (cls : Value) (d : Option Addr) (pn : List (Addr × Obj)), Zc cls d oe → (∃ vs, oe.data = .fields vs) → SSs (X.suite a ((a, oe) :: pn)) g (some (a, cls, d)) Wn (s0 :: ss) su) (r : HdD X g hs l l3) :
      HdD X g (.ExceptHandler (some (.Name x p1)) none (s0 :: ss) p2 :: hs) ((m, none, su) :: l) ((c, none, rdU g su) :: l3)
  | named {x n : Str} {i : Nat} {c : Value} {m : Nat → Option Bool} {su : DS} {s0 : Stmt} {ss : List Stmt} {p1 p2 : Pos} {hs : List ExceptHandler} {l : List HZ} {l3 : List HT3} (nm : Names X x c) (hm : ∀ k b, m k = some b → PySem.W.exmOne g.K (.ref (g.cls k)) c = some b) (hi : X.N[i]? = some n) (hl : X.env.kindOf n = some .local)
      (hu : ∀ (a : Addr) (oe : Obj) (cls : Value) (d : Option Addr) (pn : List (Addr × Obj)), Zc cls d oe → (∃ vs, oe.data = .fields vs) → SSs (X.suite a ((a, oe) :: pn)) g (some (a, cls, d)) Wn (s0 :: ss) su) (r : HdD X g hs l l3) :
      HdD X g (.ExceptHandler (some (.Name x p1)) (some n) (s0 :: ss) p2 :: hs) ((m, some i, su) :: l) ((c, some i, rdU g su) :: l3)
theorem HdD.toZ {hs : List ExceptHandler} {l : List HZ} {l3 : List HT3} (h : HdD X g hs l l3) : HdZ X hs l3 := by
  induction h with
  | nil => exact .nil
  | bare nm _ hu _ ih => exact .bare nm hu ih
  | named nm _ hi hl hu _ ih => exact .named nm hi hl hu ih
theorem RFr.clr {xi : XI} {ρ : List Addr} {H : Hp} {fr : Fr} {σ : St} (h : RFr g xi ρ H fr σ) : RFr g none ρ H (clrF fr) σ := by
  refine ⟨by unfold clrF; rw [List.length_map]; exact h.len, fun j s hs => ?_⟩
  unfold clrF at hs
  rw [List.getElem?_map] at hs
  cases q : fr[j]? with
  | none => rw [q] at hs; cases hs
  | some s0 =>
    rw [q] at hs
    cases hs
    obtain ⟨v, h1, h2⟩ := h.at_ j s0 q
    refine ⟨v, h1, ?_⟩
    cases h2 with
    | un => exact .un _
    | va r => exact .va r
    | xc e r => exact .un _
theorem clr_out {xi : XI} {ρ : List Addr} {H : Hp} {D : Ends} {r : RS} (h : OutS g none W ρ H D r.suit.clr) : OutS g xi Wn ρ H D r := by
  cases r with
  | nx fr A => exact fun ρ' H' σ' e f => h ρ' H' σ' e f.clr
  | bk fr A => exact fun ρ' H' σ' e f => h ρ' H' σ' e f.clr
  | ct fr A => exact fun ρ' H' σ' e f => h ρ' H' σ' e f.clr
  | rt z A => exact h
  | ex x fr A => exact h.elim
  | no => exact h
theorem unb_out {xi : XI} {ρ : List Addr} {H : Hp} {D : Ends} {r : RS} {i : Nat} (h : OutS g none W ρ H D (r.suit.unb i)) : OutS g xi Wn ρ H (unbE i D) r := by
  cases r with
  | nx fr A => exact fun ρ' H' σ' e f => h ρ' H' _ e (f.forget i none).clr
  | bk fr A => exact fun ρ' H' σ' e f => h ρ' H' _ e (f.forget i none).clr
  | ct fr A => exact fun ρ' H' σ' e f => h ρ' H' _ e (f.forget i none).clr
  | rt z A => exact h
  | ex x fr A => exact h.elim
  | no => exact h
theorem hs_out {D : Ends} {x : ZX} {fr : Fr} {A : ZH} {ρ : List Addr} {H : Hp} {σ : St} {cl : Value} {d : Option Addr} (f : RFr g none ρ H fr σ) (R : RH g ρ A H) (rx : RX g ρ H x.1 x.2 cl d) :
    ∀ {hds : List ExceptHandler} {hs : List HZ} {l3 : List HT3}, HdD X g hds hs l3 → OutS g none W ρ H D (dHs x fr A hs) → wHs g.K W D l3 cl d σ H := by
  intro hds hs l3 hd
  induction hd with
  | nil => exact fun h => h ρ H σ cl d (.refl _ _) f R rx
  | @bare y c m su s0 ss p1 p2 hs2 l l3 nm hm hu r ih =>
    intro h
    unfold dHs at h
    cases q : m x.1 with
    | none => rw [q] at h; exact h.elim
    | some b =>
      rw [q] at h
      have e1 := rx.1
      subst e1
      refine ⟨b, hm _ _ q, fun hb a na => ?_, fun hb => ?_⟩
      · subst hb
        exact ⟨ρ, fr, A, f.toXi _, R, clr_out h⟩
      · subst hb
        exact ih h
  | @named y n i c m su s0 ss p1 p2 hs2 l l3 nm hm hi hl hu r ih =>
    intro h
    unfold dHs at h
    cases q : m x.1 with
    | none => rw [q] at h; exact h.elim
    | some b =>
      rw [q] at h
      have e1 := rx.1
      subst e1
      refine ⟨b, hm _ _ q, fun hb a na => ?_, fun hb => ?_⟩
      · subst hb
        exact ⟨ρ, _, A, (f.toXi _).set i (.xc rfl rx), R, unb_out h⟩
      · subst hb
        exact ih h
theorem s_try {l3 : List HT3} (stk : X.stack = X.env :: X.outer) (frm : X.env.frame = some X.env.locals) (nd : X.N.Nodup) (tk : Takes X W) (hK : X.K = g.K)
    (bd : ∀ (W : WX) (pn : List (Addr × Obj)) (xe : Value → Shared → Prop), Takes (X.tr pn xe) W → PassesOwn (model X.prog X.w) X.A X.env xe → SSs (X.tr pn xe) g none W body db)
    (hd : HdD X g (h0 :: hds) hs l3) : SSt X g none W (.Try body (h0 :: hds) [] [] pos) (dTry db hs) := by
  refine PS.imp (ps_tryZ (tb := fun W => rdS g none W db) stk frm nd tk bd hd.toZ) fun D σ H h => ?_
  obtain ⟨ρ, fr, A, hf, hr, h⟩ := h
  refine ⟨ρ, fr, A, hf, hr, ?_⟩
  unfold dTry at h
  rw [hK]
  cases q : db fr A with
  | ex x fr1 A1 =>
    rw [q] at h
    intro ρ' H' σ' cl d e' f' r' rx
    exact hs_out f' r' rx hd (OutS.ext e' h)
  | nx _ _ => rw [q] at h; exact h
  | rt _ _ => rw [q] at h; exact h
  | bk _ _ => rw [q] at h; exact h
  | ct _ _ => rw [q] at h; exact h
  | no => rw [q] at h; exact h
/-- a field of the suite's exception -/
def dXf (tb : List (Nat × Nat)) (i : Nat) : DE := fun fr A => match fr[i]? with
  | some (.xc c fs) => match tb.lookup c with
    | some j => match getF fs j with
      | some z => .ok z A
      | none => .no
    | none => .no
  | _ => .no
/-- a class whose exceptions' fields are read -/
structure XfZ (g : G) (c : Nat) : Prop where
  xf : XfC g.K (g.cls c)
  no : ∀ f ∈ g.fld c, PySem.W.findIn g.K (.ref (g.cls c)) f = some none
def XfPack (g : G) (f : Str) (tb : List (Nat × Nat)) : Prop := ∀ q ∈ tb, XfZ g q.1 ∧ (g.fld q.1)[q.2]? = some f
theorem xpack_nil {f : Str} : XfPack g f [] := fun q h => by cases h
theorem xpack_cons {f : Str} {c i : Nat} {tb : List (Nat × Nat)} (h : XfZ g c) (hi : (g.fld c)[i]? = some f) (t : XfPack g f tb) : XfPack g f ((c, i) :: tb) := fun q hq => by
  rcases List.mem_cons.mp hq with e | hq
  · subst e; exact ⟨h, hi⟩
  · exact t q hq
theorem e_xf {a : Addr} {oe : Obj} {cl : Value} {d : Option Addr} {pn : List (Addr × Obj)} {n f : Str} {i : Nat} {tb : List (Nat × Nat)} {p1 p2 : Pos} (P : XfPack g f tb) (hz : Zc cl d oe) (hf : ∃ vs, oe.data = .fields vs) (hK : X.K = g.K := by rfl) (hi : X.N[i]? = some n := by rfl) (hv : Vis X.env.scope n := by first | exact Or.inl rfl | exact Or.inr (Or.inl rfl))
    (hb : attributeBase (.Name n p1) f X.env (eval (.Name n p1) X.env) = eval (.Name n p1) X.env := by rfl) (hdb : (n == ("__debug__" : Str)) = false := by decide) (hcd : (n == ("__classdict__" : Str)) = false := by decide) :
    SE (X.suite a ((a, oe) :: pn)) g (some (a, cl, d)) Wn (.Attribute (.Name n p1) f p2) (dXf tb i) := by
  refine PE.imp (PE.some (ι := { q : Nat × Nat // q ∈ tb }) (t := fun q => tXf a cl d (g.cls q.1.1) f (tVar i)) fun q => ?_) fun σ H Q h => ?_
  · have xf := (P q.1 q.2).1.xf
    have hno := (P q.1 q.2).1.no f (List.mem_of_getElem? (P q.1 q.2).2)
    rw [← hK] at xf hno
    exact pe_xf xf hno hz hf (pe_var hi hv hdb hcd) hb
  · obtain ⟨ρ, fr, A, hfr, hr, h⟩ := h
    unfold dXf at h
    cases q : fr[i]? with
    | none => rw [q] at h; exact h.elim
    | some s =>
      rw [q] at h
      cases s with
      | xc c fs =>
        dsimp only at h
        cases q2 : tb.lookup c with
        | none => rw [q2] at h; exact h.elim
        | some j =>
          rw [q2] at h
          dsimp only at h
          cases q3 : getF fs j with
          | none => rw [q3] at h; exact h.elim
          | some z =>
            rw [q3] at h
            have hm := lookup_mem q2
            obtain ⟨v, h1, h2⟩ := hfr.at_ i _ q
            cases h2 with
            | xc e r =>
              cases e
              obtain ⟨e1, e2⟩ := r
              rcases e2 with ⟨dd, ks, e3, nd, e4, e5⟩ | ⟨e3, _⟩
              · have k := e5.at_ j f (P _ hm).2
                have q3' : fs[j]?.join = some z := q3
                rw [q3'] at k
                obtain ⟨w, hw, rw'⟩ := k.some
                exact ⟨⟨(c, j), hm⟩, _, h1, rfl, e1, dd, ks, w, e3, e4, hw, h ρ H w (.refl _ _) hr rw'⟩
              · subst e3
                unfold getF at q3
                simp at q3
      | _ => exact h.elim

/-! ### raise -/
/-- a class of exceptions with its own __init__ that keeps its arguments -/
def spX (n : Nat) (C : Addr) (fs : List Str) : Sp := fun vs H Q _ => vs.length = n ∧ ∃ a ws, vs = .ref a :: ws ∧ ws.length = fs.length ∧ H a = some (exo a C none) ∧ ∀ d, H d = none → d ≠ a → Q .non (upd (upd H d (exd d (fs.zip ws).reverse)) a (exo a C (some d)))
structure ExZ (P : Program) (w : World) (mg : Str → Option Value) (base : Heap) (g : G) (c : Nat) (x : Str) : Prop where
  oex : OexC g.K (g.cls c)
  xf : XfZ g c
  mgx : mg x = some (.ref (g.cls c))
  nd : (g.fld c).Nodup
  init : ∃ fI fd ps, PySem.W.findIn g.K (.ref (g.cls c)) "__init__" = some (some (.ref fI)) ∧ PySem.W.typeIn g.K (.ref fI) = some (.type "function") ∧ Binds g.K fd ps [] ∧ FnOk P w g.K mg base CX0 1 fI fd ps (spX ((g.fld c).length + 1) (g.cls c) (g.fld c))
def dRaise (c n : Nat) (da : DA) : DS := fun fr A => (da fr A).st fr fun zs A1 => if zs.length = n then .ex (c, zs.map some) fr A1 else .no
theorem zip_fields {ρ : List Addr} {H : Hp} {c : Nat} {zs : List Z} {ws : List V} (nd : (g.fld c).Nodup) (r : RZs g ρ H zs ws) (hl : zs.length = (g.fld c).length) : RFs g ρ H c (zs.map some) ((g.fld c).zip ws).reverse := by
  have key : ∀ (fs : List Str) (zs : List Z) (ws : List V), fs.Nodup → RZs g ρ H zs ws → zs.length = fs.length → (∀ (i : Nat) (y : Str), fs[i]? = some y → RF1 g ρ H ((zs.map some)[i]?.join) ((fs.zip ws).reverse.lookup y)) ∧ (∀ y, y ∉ fs → (fs.zip ws).reverse.lookup y = none) ∧ ((fs.zip ws).reverse.map (·.1)).Nodup ∧ ∀ y ∈ (fs.zip ws).reverse.map (·.1), y ∈ fs := by
    intro fs
    induction fs with
    | nil =>
      intro zs ws _ r hl
      cases zs with
      | nil => cases r; exact ⟨fun i y h => by simp at h, fun y _ => rfl, by simp, fun y h => by simp at h⟩
      | cons _ _ => simp at hl
    | cons f fs ih =>
      intro zs ws nd r hl
      cases r with
      | nil => simp at hl
      | @cons z w zs ws r t =>
        have nd' := List.nodup_cons.mp nd
        obtain ⟨i1, i2, i3, i4⟩ := ih zs ws nd'.2 t (by simpa using hl)
        have app : ∀ (l : List (Str × V)) (y : Str), (l ++ [(f, w)]).lookup y = match l.lookup y with
            | some u => some u
            | none => if y = f then some w else none := by
          intro l y
          induction l with
          | nil =>
            by_cases e : y = f
            · subst e; simp [List.lookup]
            · have q : (y == f) = false := beq_eq_false_iff_ne.mpr e
              simp [List.lookup, q, e]
          | cons p l ih2 =>
            obtain ⟨k, u⟩ := p
            by_cases e : y = k
            · subst e; simp [List.lookup]
            · have q : (y == k) = false := beq_eq_false_iff_ne.mpr e
              simp only [List.cons_append, List.lookup, q]
              exact ih2
        have e0 : ((f :: fs).zip (w :: ws)).reverse = (fs.zip ws).reverse ++ [(f, w)] := by simp
        rw [e0]
        refine ⟨fun i y h => ?_, fun y h => ?_, ?_, fun y h => ?_⟩
        · rw [app]
          cases i with
          | zero =>
            simp at h
            subst h
            rw [i2 f nd'.1, if_pos rfl]
            exact r
          | succ i =>
            have h' : fs[i]? = some y := by simpa using h
            have ne : y ≠ f := by
              rintro rfl
              exact nd'.1 (List.mem_of_getElem? h')
            have k := i1 i y h'
            have e1 : ((z :: zs).map some)[i + 1]?.join = (zs.map some)[i]?.join := by simp
            rw [e1]
            cases q : (fs.zip ws).reverse.lookup y with
            | some u => rw [q] at k; exact k
            | none =>
              rw [q] at k
              dsimp only
              rw [if_neg ne]
              exact k
        · rw [app, i2 y fun z => h (List.mem_cons_of_mem _ z)]
          dsimp only
          rw [if_neg (fun z => h (by rw [z]; exact List.mem_cons_self))]
        · rw [List.map_append, List.nodup_append]
          refine ⟨i3, by simp, fun a ha b hb => ?_⟩
          simp at hb
          subst hb
          rintro rfl
          exact nd'.1 (i4 _ ha)
        · rw [List.map_append] at h
          rcases List.mem_append.mp h with h | h
          · exact List.mem_cons_of_mem _ (i4 y h)
          · simp at h
            subst h
            exact List.mem_cons_self
  obtain ⟨k1, k2, k3, k4⟩ := key _ zs ws nd r hl
  exact ⟨k1, k2, k3, k4⟩
theorem s_raise {c n k : Nat} {x : Str} {e : Expr} {es : List Expr} {dr : DA} {p pos2 : Pos} (E : ExZ X.prog X.w X.mg X.base g c x) (room : RoomZ k X.A) (tk : Takes X W) (ha : SA X g none W (e :: es) dr) (hn : n = (g.fld c).length) (hsm : n < 100 := by decide) (hcm : X.calm = true := by rfl) (hK : X.K = g.K := by rfl) (hg : Gl X x := by rfl)
    (hdb : (x == ("__debug__" : Str)) = false := by decide) (he : starEach (e :: es) X.env = (false, eval e X.env) :: starEach es X.env := by rfl) (hpl : (backTo pos (starEach es X.env)).any (·.1) = false := by rfl) : SSt X g none W (.Raise (some (.Call (.Name x p) (e :: es) [] pos)) none pos2) (dRaise c n dr) := by
  obtain ⟨oex, xf, mgx, nd, fI, fd, ps, h1, h2, h3, h4⟩ := E
  rw [← hK] at oex h1 h2 h3 h4
  refine PS.imp (ps_raise hcm tk (pmk_oex (dvs := []) oex h1 h2 h4 (room.room.mono (by decide)) h3 .nil (fun _ _ _ _ _ _ _ z => z.elim) hg mgx ha hdb he hpl)) fun D σ H h => ?_
  obtain ⟨ρ, fr, A, hf, hr, h⟩ := h
  refine st_run hf hr h fun zs A1 ρ1 H1 vs e1 hf1 hr1 rz ho1 => ?_
  by_cases hl : zs.length = n
  · rw [if_pos hl] at ho1
    have hlv : vs.length = (g.fld c).length := by rw [← rz.length, hl, hn]
    refine ⟨by rw [hlv, ← hn]; omega, fun a na => ⟨by rw [List.append_nil, List.length_cons, hlv], a, vs, by rw [List.append_nil], hlv, upd_same, fun d nd1 ne => ?_⟩⟩
    have nd0 : H1 d = none := by rw [← nd1, upd_ne ne]
    refine ⟨rfl, d, ((g.fld c).zip vs).reverse, upd_same, ?_, nd0, ?_⟩
    · rw [upd_ne ne, upd_same]
    · have eh : upd (del (upd (upd (upd H1 a (exo a (g.cls c) none)) d (exd d ((g.fld c).zip vs).reverse)) a (exo a (g.cls c) (some d))) a) d (.xd ((g.fld c).zip vs).reverse) = upd H1 d (.xd ((g.fld c).zip vs).reverse) := by
        funext b
        by_cases hb : b = d
        · subst hb
          rw [upd_same, upd_same]
        · rw [upd_ne hb, upd_ne hb]
          by_cases hb2 : b = a
          · subst hb2
            rw [del_same, na]
          · rw [del_ne hb2, upd_ne hb2, upd_ne hb, upd_ne hb2]
      rw [eh]
      obtain ⟨R', e'⟩ := upd_tup (o := .xd ((g.fld c).zip vs).reverse) hr1 nd0
      refine ho1 ρ1 _ σ _ _ e' (hf1.mono e') R' ⟨rfl, .inl ⟨d, _, rfl, fun hm => ?_, upd_same, zip_fields nd (rz.mono e') (by rw [hl, hn])⟩⟩
      obtain ⟨q, e, _⟩ := hr1.mem hm
      rw [nd0] at e
      cases e
  · rw [if_neg hl] at ho1
    exact ho1.elim
end
end Zed

/-! Zed B: fields as targets, comprehensions, parallel assignment, enumerate. -/
namespace Zed
open PySem PySem.Spec PyProof.Rows L2
section
variable {X : Cx} {g : G} {xi : XI} {W : WX} {o e a b c : Expr} {d da db dc dO : DE} {pos : Pos}

/-! ### o.f as a target -/
def tgFld (K : PySem.W.Frag) (ta : TE) (f : Str) : TG := fun y σ H Q => ta σ H fun x H2 => ∃ a C dx fs, x = .ref a ∧ H2 a = some (.ins C dx fs) ∧ Cls K C ∧ NoAttr K C f ∧ fs.length < 1000 ∧
  Q σ (upd H2 a (.ins C dx (putF f y fs)))
theorem pg_fld {f : Str} {ta : TE} (ha : PE X o ta) : PG X (.Attribute o f pos) (tgFld X.K ta f) := by
  refine ⟨fun pins s σ H v u Q I r h => ?_⟩
  rw [assign_Attribute]
  refine wpAny_bind (wpAny_holding (thn (ha.run pins s σ H _ I h) fun ov s2 ⟨x, H2, I2, rx, a, C, dx, fs, ex, ea, c, n, l, q2⟩ => ?_))
  subst ex
  obtain rfl : ov = Value.ref a := rx
  refine wpAny_bind (wpAny_standAt (wpAny_bind (wpAny_holding (setattr_ok I2 ea c n l r fun s3 I3 => ?_))))
  exact wpAny_release ⟨σ, _, I3, q2⟩
def gFl (tb : List (Nat × Nat)) (dO : DE) : DG := fun z fr A => (dO fr A).st fr fun v A2 => match v with
  | .ref n => match A2.get n with
    | some (.ins c fs) => match tb.lookup c with
      | some i => .nx fr (A2.set n (.ins c (setF fs i z)))
      | none => .no
    | _ => .no
  | _ => .no
theorem g_fld {f : Str} {tb : List (Nat × Nat)} (P : FldPack g f tb) (ho : SE X g xi W o dO) (hK : X.K = g.K := by rfl) : SGt X g xi W (.Attribute o f pos) (gFl tb dO) := by
  refine PG.imp (pg_fld ho) fun v σ H Q h => ?_
  obtain ⟨ρ, fr, A, z, hf, hr, rz, h⟩ := h
  refine stG_run hf hr h fun u A2 ρ2 H2 uv e2 hf2 hr2 rv ho2 => ?_
  cases u with
  | ref i =>
    dsimp only at ho2
    cases q : A2.get i with
    | none => rw [q] at ho2; exact ho2.elim
    | some ob =>
      rw [q] at ho2
      cases ob with
      | ins c fs =>
        dsimp only at ho2
        cases q2 : tb.lookup c with
        | none => rw [q2] at ho2; exact ho2.elim
        | some l =>
          rw [q2] at ho2
          obtain ⟨cz, hx⟩ := P _ (lookup_mem q2)
          cases rv with
          | @ref _ ad ha =>
            obtain ⟨dx, ks, h1, h2, R3, e3⟩ := put_out hr2 cz hx (rz.mono e2) ha q
            rw [hK]
            exact ⟨ad, g.cls c, dx, ks, rfl, h1, cz.cl, cz.na f (List.mem_of_getElem? hx), h2, ho2 ρ2 _ σ e3 (hf2.mono e3) R3⟩
      | _ => exact ho2.elim
  | _ => exact ho2.elim
theorem DGok.fld {tb : List (Nat × Nat)} : DGok (gFl tb dO) := fun z fr A => by
  unfold gFl
  cases dO fr A with
  | no => exact .inr (.inr rfl)
  | ex x A1 => exact .inr (.inl ⟨_, _, _, rfl⟩)
  | ok v A1 =>
    cases v with
    | ref n =>
      show (∃ fr' A', (match A1.get n with
        | some (.ins c fs) => match tb.lookup c with
          | some i => RS.nx fr (A1.set n (.ins c (setF fs i z)))
          | none => .no
        | _ => .no) = _) ∨ _ ∨ _
      cases h : A1.get n with
      | none => exact .inr (.inr (by show (match A1.get n with | some (.ins c fs) => _ | _ => _) = _; rw [h]))
      | some ob => cases ob with
        | ins c fs =>
          cases h2 : tb.lookup c with
          | none => exact .inr (.inr (by show (match A1.get n with | some (.ins c fs) => _ | _ => _) = _; rw [h]; show (match tb.lookup c with | some i => _ | none => _) = _; rw [h2]))
          | some i => exact .inl ⟨fr, A1.set n (.ins c (setF fs i z)), by show (match tb.lookup c with | some i => _ | none => _) = _; rw [h2]⟩
        | lst _ => exact .inr (.inr (by show (match A1.get n with | some (.ins c fs) => _ | _ => _) = _; rw [h]))
        | dct _ => exact .inr (.inr (by show (match A1.get n with | some (.ins c fs) => _ | _ => _) = _; rw [h]))
    | _ => exact .inr (.inr rfl)

/-! ### comprehensions -/
theorem e_lc (n : Nat) {elt tg iter : Expr} {ifs : List Expr} {scope : Scope} {own : List (Str × Nat)} {src : DI} {ct : CT} {tt : DT} {te : DE} (hc : X.calm = true) (hN : X.N.Nodup) (hi : SI X g xi W tg iter src) (ok : BlkOk X.N X.env.scope scope own)
    (hg : ∀ (s : Shared) (H : Hp) (C : Addr) (cl : List (Str × Addr)) (fp : List Addr), PG (X.blk s H scope (compEnvC scope cl C X.env) fp) tg (ct.tg g.K)) (ht : ∀ (s : Shared) (H : Hp) (C : Addr) (cl : List (Str × Addr)) (fp : List Addr), STT (X.blk s H scope (compEnvC scope cl C X.env) fp) g xi Wn ifs tt)
    (he : ∀ (s : Shared) (H : Hp) (C : Addr) (cl : List (Str × Addr)) (fp : List Addr), SE (X.blk s H scope (compEnvC scope cl C X.env) fp) g xi Wn elt te) (ho : ∀ i ∈ ct.ix, i ∈ own.map (·.2) := by decide) (hs : ∀ x, foldedSetIterable iter X.env x = pure x := by intro _; rfl) :
    SE X g xi W (.ListComp elt [⟨tg, iter, ifs, 0⟩] scope pos) (dLc n src ct tt te (own.map (·.2))) := by
  refine PE.imp (pe_lc hc hN hi ok hg ht he hs) fun σ H Q h => ?_
  exact lc_run ho h
theorem s_setLc (n : Nat) (i : Nat) {y : Str} {py : Pos} {elt tg iter : Expr} {ifs : List Expr} {scope : Scope} {own : List (Str × Nat)} {cpos : Pos} {src : DI} {ct : CT} {tt : DT} {te : DE} (hc : X.calm = true) (hN : X.N.Nodup) (hi : SI X g xi W tg iter src) (ok : BlkOk X.N X.env.scope scope own)
    (hg : ∀ (s : Shared) (H : Hp) (C : Addr) (cl : List (Str × Addr)) (fp : List Addr), PG (X.blk s H scope (compEnvC scope cl C X.env) fp) tg (ct.tg g.K)) (ht : ∀ (s : Shared) (H : Hp) (C : Addr) (cl : List (Str × Addr)) (fp : List Addr), STT (X.blk s H scope (compEnvC scope cl C X.env) fp) g xi Wn ifs tt)
    (he : ∀ (s : Shared) (H : Hp) (C : Addr) (cl : List (Str × Addr)) (fp : List Addr), SE (X.blk s H scope (compEnvC scope cl C X.env) fp) g xi Wn elt te) (ho : ∀ i ∈ ct.ix, i ∈ own.map (·.2) := by decide) (hy : X.N[i]? = some y := by rfl) (hyl : X.env.scope.names.lookup y = some .local := by rfl)
    (hsw : swapsWith (.ListComp elt [⟨tg, iter, ifs, 0⟩] scope cpos) (some (.Name y py)) pos.line X.env = pure true := by rfl) (hs : ∀ x, foldedSetIterable iter X.env x = pure x := by intro _; rfl) :
    SSt X g xi W (.Assign [.Name y py] (.ListComp elt [⟨tg, iter, ifs, 0⟩] scope cpos) pos) (dSet i (dLc n src ct tt te (own.map (·.2)))) := by
  refine PS.imp (ps_setLc hc hN hy hyl hsw hi ok hg ht he hs) fun D σ H h => ?_
  refine lc_run (n := n) (Q := fun v H' => gName i v σ H' D.nx) ho ?_
  obtain ⟨ρ, fr, A, hf, hr, h⟩ := h
  refine ⟨ρ, fr, A, hf, hr, ?_⟩
  show OutR g W σ ρ H (relZ g) _ (dLc n src ct tt te (own.map (·.2)) fr A)
  have h : OutS g xi W ρ H D ((dLc n src ct tt te (own.map (·.2)) fr A).st fr fun z A1 => .nx (fr.set i (.va z)) A1) := h
  cases q : dLc n src ct tt te (own.map (·.2)) fr A with
  | no => rw [q] at h; exact h.elim
  | ex x A1 => rw [q] at h; exact fun ρ' H' cl d e' r' x' => h ρ' H' σ cl d e' (hf.mono e') r' x'
  | ok z A1 =>
    rw [q] at h
    exact fun ρ' H' v e' r' rz => h ρ' H' _ e' ((hf.mono e').set i (.va rz)) r'

/-! ### x, y = a, b -/
def dPar (is : List Nat) (da : DA) : DS := fun fr A => (da fr A).st fr fun zs A1 => match setAll is zs fr with
  | some fr1 => .nx fr1 A1
  | none => .no
theorem set2 {is : List Nat} {i j : Nat} {zs : List Z} {fr fr1 : Fr} (h : setAll [i, j] zs fr = some fr1) : ∃ x y, zs = [x, y] ∧ fr1 = (fr.set i (.va x)).set j (.va y) := by
  match zs, h with
  | [x, y], h => exact ⟨x, y, rfl, (Option.some.inj h).symm⟩
  | [], h => cases h
  | [_], h => cases h
  | _ :: _ :: _ :: _, h => cases h
theorem set3 {is : List Nat} {i j l : Nat} {zs : List Z} {fr fr1 : Fr} (h : setAll [i, j, l] zs fr = some fr1) : ∃ x y w, zs = [x, y, w] ∧ fr1 = ((fr.set i (.va x)).set j (.va y)).set l (.va w) := by
  match zs, h with
  | [x, y, w], h => exact ⟨x, y, w, rfl, (Option.some.inj h).symm⟩
  | [], h => cases h
  | [_], h => cases h
  | [_, _], h => cases h
  | _ :: _ :: _ :: _ :: _, h => cases h
theorem s_par (i j : Nat) {x y : Str} {d2 : DA} {px py pt pt2 : Pos} {kt k2} (hc : X.calm = true) (hN : X.N.Nodup) (ha : SA X g xi W [a, b] d2) (hij : i ≠ j := by decide) (hi : X.N[i]? = some x := by rfl) (hj : X.N[j]? = some y := by rfl)
    (hx : X.env.scope.names.lookup x = some .local := by rfl) (hy : X.env.scope.names.lookup y = some .local := by rfl)
    (hw : swappedStores [.Tuple [.Name x px, .Name y py] kt pt] (.Tuple [a, b] k2 pt2) X.env = pure (some [x, y]) := by rfl)
    (hs : swapsWithSole [.Tuple [.Name x px, .Name y py] kt pt] (.Tuple [a, b] k2 pt2) pos.line X.env = pure false := by rfl) :
    SSt X g xi W (.Assign [.Tuple [.Name x px, .Name y py] kt pt] (.Tuple [a, b] k2 pt2) pos) (dPar [i, j] d2) := by
  refine PS.imp (ps_par hc hN hi hj hij hx hy ha hw hs) fun D σ H h => ?_
  obtain ⟨ρ, fr, A, hf, hr, h⟩ := h
  refine st_run hf hr h fun zs A1 ρ1 H1 vs e1 hf1 hr1 rz ho1 => ?_
  cases q : setAll [i, j] zs fr with
  | none => rw [q] at ho1; exact ho1.elim
  | some fr1 =>
    rw [q] at ho1
    obtain ⟨z1, z2, e2, e3⟩ := set2 (is := []) q
    subst e2 e3
    cases rz with
    | cons r1 rz =>
      cases rz with
      | cons r2 rz =>
        cases rz
        exact ⟨_, _, rfl, ho1 ρ1 H1 _ (.refl _ _) ((hf1.set i (.va r1)).set j (.va r2)) hr1⟩
theorem s_par3 (i j l : Nat) {x y z : Str} {d3 : DA} {px py pz pt pt2 : Pos} {kt k2} (hc : X.calm = true) (hN : X.N.Nodup) (ha : SA X g xi W [a, b, c] d3) (hij : i ≠ j := by decide) (hil : i ≠ l := by decide) (hjl : j ≠ l := by decide) (hi : X.N[i]? = some x := by rfl) (hj : X.N[j]? = some y := by rfl) (hl : X.N[l]? = some z := by rfl)
    (hx : X.env.scope.names.lookup x = some .local := by rfl) (hy : X.env.scope.names.lookup y = some .local := by rfl) (hz : X.env.scope.names.lookup z = some .local := by rfl)
    (hw : swappedStores [.Tuple [.Name x px, .Name y py, .Name z pz] kt pt] (.Tuple [a, b, c] k2 pt2) X.env = pure (some [x, y, z]) := by rfl)
    (hs : swapsWithSole [.Tuple [.Name x px, .Name y py, .Name z pz] kt pt] (.Tuple [a, b, c] k2 pt2) pos.line X.env = pure false := by rfl) :
    SSt X g xi W (.Assign [.Tuple [.Name x px, .Name y py, .Name z pz] kt pt] (.Tuple [a, b, c] k2 pt2) pos) (dPar [i, j, l] d3) := by
  refine PS.imp (ps_par3 hc hN hi hj hl hij hil hjl hx hy hz ha hw hs) fun D σ H h => ?_
  obtain ⟨ρ, fr, A, hf, hr, h⟩ := h
  refine st_run hf hr h fun zs A1 ρ1 H1 vs e1 hf1 hr1 rz ho1 => ?_
  cases q : setAll [i, j, l] zs fr with
  | none => rw [q] at ho1; exact ho1.elim
  | some fr1 =>
    rw [q] at ho1
    obtain ⟨z1, z2, z3, e2, e3⟩ := set3 (is := []) q
    subst e2 e3
    cases rz with
    | cons r1 rz =>
      cases rz with
      | cons r2 rz =>
        cases rz with
        | cons r3 rz =>
          cases rz
          exact ⟨_, _, _, rfl, ho1 ρ1 H1 _ (.refl _ _) (((hf1.set i (.va r1)).set j (.va r2)).set l (.va r3)) hr1⟩

/-! ### enumerate -/
def ItE (f : Nat → V → Prop) (n : Nat) : It := ⟨fun i _ => i < n, fun i H v H' => ∃ T x, v = .ref T ∧ H T = none ∧ H' = upd H T (.tup [.int (i : Nat), x]) ∧ f i x, fun i _ => n ≤ i⟩
theorem turn_enumS {P : Program} {w : World} {K : PySem.W.Frag} {elts : List Expr} {kk : Nat} {tpos : Pos} (x : Str) (t : Tok) (e it : Addr) :
    Turn P w K (.Tuple elts kk tpos) (ItE (fun i v => ∃ c, x.cps[i]? = some c ∧ v = .str ⟨#[c]⟩) x.cps.size) [e, it] e (fun i h => (∃ old, IsEnum h e it ((i : Nat) : Int) old) ∧ h.IsStrIter it (strIterType x) x t i ∧ e ≠ it ∧ i ≤ x.cps.size) where
  mem := by simp
  obj := fun i h st b hb => by
    obtain ⟨⟨old, he⟩, ⟨o, ho, hc, hd⟩, _⟩ := st
    have e' : b = e ∨ b = it := by simpa using hb
    rcases e' with z | z
    · rw [z]; exact ⟨_, he, fun v q => nomatch q⟩
    · rw [z]; exact ⟨o, ho, fun v q => by rw [hd] at q; cases q⟩
  keep := fun i h h' st k => let ⟨⟨old, he⟩, ⟨o, ho, r⟩, hne⟩ := st; ⟨⟨old, k e (by simp) _ he⟩, ⟨o, k it (by simp) o ho, r⟩, hne⟩
  item := by
    intro X hP hw hK hc i pins s σ H E I hf st hg
    subst hP hw hK
    obtain ⟨⟨old, he⟩, hit, hne, hle⟩ := st
    have hg : i < x.cps.size := hg
    have hel : e < s.heap.objs.size := Heap.lt_size he
    have hil : it < s.heap.objs.size := by obtain ⟨_, q, _⟩ := hit; exact Heap.lt_size q
    refine wpAny_pyNext_enum_itemD (Draws.text (A := X.A.in1) (I.ok.hd hc) it x t) he hit hg hne (by simpa using hne) fun u h' tk hu ho hit' hT hsz hk => ?_
    obtain ⟨c, tc, hc1, rfl⟩ := hu
    refine ⟨_, rfl, wpAny_letOwnedTupleGo_enum (s := { s with heap := h', toks := tk + 1 }) ho fun h'' he' sb => ?_⟩
    have hT2 : h''.get? s.heap.objs.size = some { cls := .type "tuple", data := .seq #[.int i tk, .str ⟨#[c]⟩ tc] } := (sb.2 _ (Nat.ne_of_gt hel)).trans hT
    have new : ObjOk X.prog X.w (upd H s.heap.objs.size (.tup [.int (i : Nat), .str ⟨#[c]⟩])) h'' s.heap.objs.size (.tup [.int (i : Nat), .str ⟨#[c]⟩]) :=
      ⟨by show 2 ≤ sizeLine; decide, [.int i tk, .str ⟨#[c]⟩ tc], .cons ⟨_, rfl⟩ (.cons ⟨_, rfl⟩ .nil), ⟨_, hT2, rfl, _, rfl⟩⟩
    have I1 : Inv X pins σ (upd H s.heap.objs.size (.tup [.int (i : Nat), .str ⟨#[c]⟩])) { s with heap := h'', toks := tk + 1 } :=
      I.turnedNew (ch := [e, it]) (fun b ob hb q => (sb.2 b (fun z => hb (by simp [z]))).trans (hk b ob (fun z => hb (by simp [z])) (fun z => hb (by simp [z])) q)) hf (Nat.le_refl _) new
    have hit2 : h''.IsStrIter it (strIterType x) x t (i + 1) := by
      obtain ⟨o, q, r⟩ := hit'
      exact ⟨o, (sb.2 it (Ne.symm hne)).trans q, r⟩
    have e1 : ((i + 1 : Nat) : Int) = (i : Int) + 1 := by omega
    refine ⟨.ref s.heap.objs.size, _, I1, rfl, ⟨_, .str ⟨#[c]⟩, rfl, I.hok.fresh (Nat.le_refl _), rfl, c, hc1, rfl⟩, ⟨⟨_, by rw [e1]; exact he'⟩, hit2, hne, hg⟩, fun b hb => ?_⟩
    have hb' : b < s.heap.objs.size := by
      have e' : b = e ∨ b = it := by simpa using hb
      rcases e' with z | z
      · rw [z]; exact hel
      · rw [z]; exact hil
    rw [upd_ne (Nat.ne_of_lt hb')]
    exact (hf b hb).1
  done := by
    intro X hP hw hK hc i pins s σ H E I hf st hg
    subst hP hw hK
    obtain ⟨⟨old, he⟩, hit, hne, hle⟩ := st
    obtain ⟨f0, f1, f2, f3, f4, f5⟩ := hf it (by simp)
    have hg : x.cps.size ≤ i := hg
    have hi : i = x.cps.size := Nat.le_antisymm hle hg
    subst hi
    exact wpAny_pyNext_enum_endD (Draws.text (A := X.A.in1) (I.ok.hd hc) it x t) he hit fun h' eb => ⟨rfl, I.turned (t' := s.toks) (fun b o hb e => eb b o hb e) f0 f1 f3 f4 f5⟩
  self := fun A i s Q E st h => let ⟨⟨_, he⟩, _⟩ := st; wpAny_pyIter_enum he h
def IteT (K : PySem.W.Frag) (a : Addr) : It :=
  ⟨fun i H => ∃ (xs : List V) (x : V), SqT K H a xs ∧ xs[i]? = some x, fun i H v H' => ∃ T x, v = .ref T ∧ H T = none ∧ H' = upd H T (.tup [.int (i : Nat), x]) ∧ ∀ xs, SqT K H a xs → xs[i]? = some x, fun i H => ∃ xs : List V, SqT K H a xs ∧ xs.length ≤ i⟩
theorem turn_enumT {P : Program} {w : World} {K : PySem.W.Frag} {elts : List Expr} {kk : Nat} {tpos : Pos} (a e it : Addr) (n : Nat) (hea : e ≠ a) (hia : it ≠ a) :
    Turn P w K (.Tuple elts kk tpos) (IteT K a) [e, it] e (fun i h => (∃ old, IsEnum h e it ((i : Nat) : Int) old) ∧ h.IsTupleIter it a i ∧ e ≠ it) where
  mem := by simp
  obj := fun i h st b hb => by
    obtain ⟨⟨old, he⟩, ⟨o, ho, hc, hd⟩, _⟩ := st
    have e' : b = e ∨ b = it := by simpa using hb
    rcases e' with z | z
    · rw [z]; exact ⟨_, he, fun v q => nomatch q⟩
    · rw [z]; exact ⟨o, ho, fun v q => by rw [hd] at q; cases q⟩
  keep := fun i h h' st k => let ⟨⟨old, he⟩, hi, hne⟩ := st; ⟨⟨old, k e (by simp) _ he⟩, hi.at fun o q => k it (by simp) o q, hne⟩
  item := by
    intro X hP hw hK hc i pins s σ H E I hf st hg
    subst hP hw hK
    obtain ⟨⟨old, he⟩, hit, hne⟩ := st
    obtain ⟨xs, x, hq, hx⟩ := hg
    obtain ⟨its, rv, p, hz⟩ := I.tuple hq
    have p : s.heap.IsTuple a its.toArray := p
    obtain ⟨u0, hu0, ru0⟩ := rv.get hx
    have hel : e < s.heap.objs.size := Heap.lt_size he
    have hil : it < s.heap.objs.size := by obtain ⟨_, q, _⟩ := hit; exact Heap.lt_size q
    refine wpAny_pyNext_enum_itemD (Draws.tuple (A := X.A.in1) (I.ok.hd hc) it a (Ne.symm hia) its.toArray) he ⟨hit, p⟩ (by simpa using (List.getElem?_eq_some_iff.mp hu0).1) hne (by simp [hne, hea]) fun u h' tk hu ho hit' hT hsz hk => ?_
    have hu : its[i]? = some u := by simpa using hu
    rw [hu0] at hu
    cases hu
    refine ⟨_, rfl, wpAny_letOwnedTupleGo_enum (s := { s with heap := h', toks := tk + 1 }) ho fun h'' he' sb => ?_⟩
    have hT2 : h''.get? s.heap.objs.size = some { cls := .type "tuple", data := .seq #[.int i tk, u0] } := (sb.2 _ (Nat.ne_of_gt hel)).trans hT
    have new : ObjOk X.prog X.w (upd H s.heap.objs.size (.tup [.int (i : Nat), x])) h'' s.heap.objs.size (.tup [.int (i : Nat), x]) :=
      ⟨by show 2 ≤ sizeLine; decide, [.int i tk, u0], .cons ⟨_, rfl⟩ (.cons ru0 .nil), ⟨_, hT2, rfl, _, rfl⟩⟩
    have I1 : Inv X pins σ (upd H s.heap.objs.size (.tup [.int (i : Nat), x])) { s with heap := h'', toks := tk + 1 } :=
      I.turnedNew (ch := [e, it]) (fun b ob hb q => (sb.2 b (fun z => hb (by simp [z]))).trans (hk b ob (fun z => hb (by simp [z])) (fun z => hb (by simp [z])) q)) hf (Nat.le_refl _) new
    have e1 : ((i + 1 : Nat) : Int) = (i : Int) + 1 := by omega
    refine ⟨.ref s.heap.objs.size, _, I1, rfl, ⟨_, x, rfl, I.hok.fresh (Nat.le_refl _), rfl, fun ys hy => by rw [I.tuple_inj hy hq]; exact hx⟩, ⟨⟨u0, by rw [e1]; exact he'⟩, hit'.1.at fun o q => (sb.2 it (Ne.symm hne)).trans q, hne⟩, fun b hb => ?_⟩
    have hb' : b < s.heap.objs.size := by
      have e' : b = e ∨ b = it := by simpa using hb
      rcases e' with z | z
      · rw [z]; exact hel
      · rw [z]; exact hil
    rw [upd_ne (Nat.ne_of_lt hb')]
    exact (hf b hb).1
  done := by
    intro X hP hw hK hc i pins s σ H E I hf st hg
    subst hP hw hK
    obtain ⟨⟨old, he⟩, hit, hne⟩ := st
    obtain ⟨xs, hq, hx⟩ := hg
    obtain ⟨its, rv, p, hz⟩ := I.tuple hq
    have p : s.heap.IsTuple a its.toArray := p
    obtain ⟨f0, f1, f2, f3, f4, f5⟩ := hf it (by simp)
    have hl := rv.length
    have hT : s.TypeIs (.ref e) "enumerate" := ⟨_, he, rfl⟩
    unfold pyNext
    refine wpAny_bind (wpAny_attempt (wpAny_callSpecial?_slot (name := Str.ofString "__next__") hT F.slot_enumerate_next
      (wpAny_call_entry F.slot_enumerate_next hT F.entry_enumerate_next ?_ (F.args_enumerate_next_1 _))))
    show wpAny _ _ (field (.ref e) 2 >>= _) _ _ _
    refine wpAny_bind (wpAny_field he rfl (x := .ref it) rfl ?_)
    refine wpAny_bind (wpAny_nextOf_tuple_end (A := X.A.in1) (I.ok.hd hc) hit p (by simp; omega) fun h' x he' hx' => ?_)
    obtain ⟨o, ho, hc⟩ := hx'
    refine wpAny_bind (wpAny_isInstance (T := "StopIteration") (b := true) ⟨o, ho, hc⟩ isSubtype_stop ?_)
    exact wpAny_pure ⟨rfl, I.turned (t' := s.toks) (fun b o hb e => he' b o hb e) f0 f1 f3 f4 f5⟩
  self := fun A i s Q E st h => let ⟨⟨_, he⟩, _⟩ := st; wpAny_pyIter_enum he h
end
set_option maxHeartbeats 1000000 in
theorem meets_enum1 {v : Value} {o : Obj} {H : Heap → Prop} (B : Begins v o H) :
    Meets (Builtin.«enumerate.__new__» ⟨[.type "enumerate", v], []⟩) (fun _ R s => H s.heap ∧
      R (.ok (.ret (.ref (s.heap.push o).objs.size))) { s with heap := (s.heap.push o).push { cls := .type "enumerate", data := .fields #[.none, .bool false, .ref s.heap.objs.size, rawInt 0, .none, .none] } }) :=
  .of_wp fun prog w A R s h => by
    obtain ⟨hp, gg, dd, tk, os⟩ := s
    obtain ⟨h1, h⟩ := h
    have hsub := sub_enumerate
    have q1 : ∀ {A' : Around} {E : Value → Shared → Prop} {Q : Value → Shared → Prop}, Q (.ref hp.objs.size) ⟨hp.push o, gg, dd, tk, os⟩ → wpAny (model prog w) A' (pyIter v) Q E ⟨hp, gg, dd, tk, os⟩ :=
      fun q => B.iter prog w _ _ ⟨hp, gg, dd, tk, os⟩ _ h1 q
    wp_walk using q1
    refine wpAny_stack_any fun st => wpAny_pure ?_
    split
    · rename_i c _ _ _ _ _
      cases (c == Value.type "enumerate") <;> (wp_walk using q1; exact ⟨_, rfl, h⟩)
    · wp_walk using q1
      exact ⟨_, rfl, h⟩
theorem enum1_begins {prog : Program} {w : World} {A : Around} {E : Value → Shared → Prop} {s : Shared} {v : Value} {o : Obj} {H : Heap → Prop} {Q : Value → Shared → Prop} (B : Begins v o H) (h1 : H s.heap)
    (h : ∀ h', IsEnum h' (s.heap.objs.size + 1) s.heap.objs.size 0 .none → h'.get? s.heap.objs.size = some o → h'.objs.size = s.heap.objs.size + 2 →
      (∀ b o, s.heap.get? b = some o → h'.get? b = some o) → Q (.ref (s.heap.objs.size + 1)) { s with heap := h' }) :
    wpAny (model prog w) A (call (.type "enumerate") [v]) Q E s := by
  refine callType_new F.called_enumerate (by decide) (F.typeCall_enumerate_1 _) (F.newCall_enumerate_1 _) (fun obj => F.args_object_init_2 obj _) F.entry_enumerate_new (meets_enum1 B) ⟨h1, ?_⟩
  have hz : (s.heap.push o).objs.size = s.heap.objs.size + 1 := Heap.size_push ..
  show _ ∧ _
  rw [hz]
  have he := Heap.get?_push_size (s.heap.push o) (o := { cls := .type "enumerate", data := .fields #[.none, .bool false, .ref s.heap.objs.size, rawInt 0, .none, .none] }) rfl
  rw [hz] at he
  exact ⟨⟨_, he, rfl⟩, h _ he (Heap.get?_push_of_some _ (Heap.get?_push_size _ B.free)) (by rw [Heap.size_push, hz]) fun b o x => Heap.get?_push_of_some _ (Heap.get?_push_of_some _ x)⟩
section
variable {X : Cx} {g : G} {xi : XI} {W : WX} {o e a b c : Expr} {d da db dc dO : DE} {pos : Pos}
def iEnS (ta : TA) : TI := fun σ H R => ta σ H fun vs H1 => ∃ x, vs = [.str x] ∧ R (ItE (fun i v => ∃ c, x.cps[i]? = some c ∧ v = .str ⟨#[c]⟩) x.cps.size) H1
theorem pi_enS {ta : TA} {p tpos : Pos} {elts : List Expr} {kk : Nat} (hg : Gl X "enumerate") (hm : X.mg "enumerate" = none) (ha : PA X [e] ta) (hs : starEach [e] X.env = [(false, eval e X.env)] := by rfl) :
    PI X (.Tuple elts kk tpos) (.Call (.Name "enumerate" p) [e] [] pos) (iEnS ta) := by
  constructor
  intro pins s σ H R I h
  refine Call_ (ld_blt I hg hm boot_enumerate (PyProof.Rows.callWith_type1 (thn (ha.run pos pins s σ H _ I h) ?_) hs rfl))
  rintro us s1 ⟨vs, H1, I1, r1, x, ex, q⟩
  subst ex
  cases r1 with
  | cons r rr =>
    cases rr
    obtain ⟨t, rfl⟩ := r
    refine enum1_begins (begins_text x t) trivial fun h' he hit hsz hk => wpAny_pyIter_enum he ?_
    have I2 : Inv X pins σ H1 { s1 with heap := h' } := I1.kept (t' := s1.toks) hk
    refine ⟨s1.heap.objs.size + 1, [s1.heap.objs.size + 1, s1.heap.objs.size], _, _, H1, rfl, I2, turn_enumS x t (s1.heap.objs.size + 1) s1.heap.objs.size, ⟨⟨.none, he⟩, ⟨_, hit, rfl, rfl⟩, Nat.succ_ne_self _, Nat.zero_le _⟩, fun b hb => ?_, q⟩
    have hle : s1.heap.objs.size ≤ b := by
      have e' : b = s1.heap.objs.size + 1 ∨ b = s1.heap.objs.size := by simpa using hb
      rcases e' with z | z
      · rw [z]; exact Nat.le_succ _
      · rw [z]; exact Nat.le_refl _
    exact I1.fpOk hle (I1.hok.fresh hle)
def iEnT (K : PySem.W.Frag) (ta : TA) : TI := fun σ H R => ta σ H fun vs H1 => ∃ a xs, vs = [.ref a] ∧ SqT K H1 a xs ∧ R (IteT K a) H1
theorem pi_enT {ta : TA} {p tpos : Pos} {elts : List Expr} {kk : Nat} (hg : Gl X "enumerate") (hm : X.mg "enumerate" = none) (ha : PA X [e] ta) (hs : starEach [e] X.env = [(false, eval e X.env)] := by rfl) :
    PI X (.Tuple elts kk tpos) (.Call (.Name "enumerate" p) [e] [] pos) (iEnT X.K ta) := by
  constructor
  intro pins s σ H R I h
  refine Call_ (ld_blt I hg hm boot_enumerate (PyProof.Rows.callWith_type1 (thn (ha.run pos pins s σ H _ I h) ?_) hs rfl))
  rintro us s1 ⟨vs, H1, I1, r1, a, xs, ex, hq, q⟩
  subst ex
  cases r1 with
  | cons r rr =>
    cases rr
    cases r
    obtain ⟨its, rv, p', hz⟩ := I1.tuple hq
    have p' : s1.heap.IsTuple a its.toArray := p'
    have hal : a < s1.heap.objs.size := by obtain ⟨_, q, _⟩ := p'; exact Heap.lt_size q
    refine enum1_begins (begins_tuple a its.toArray) p' fun h' he hit hsz hk => wpAny_pyIter_enum he ?_
    have I2 : Inv X pins σ H1 { s1 with heap := h' } := I1.kept (t' := s1.toks) hk
    refine ⟨s1.heap.objs.size + 1, [s1.heap.objs.size + 1, s1.heap.objs.size], _, _, H1, rfl, I2, turn_enumT a (s1.heap.objs.size + 1) s1.heap.objs.size 0 (Nat.ne_of_gt (Nat.lt_succ_of_lt hal)) (Nat.ne_of_gt hal), ⟨⟨.none, he⟩, ⟨_, hit, rfl, rfl⟩, Nat.succ_ne_self _⟩, fun b hb => ?_, q⟩
    have hle : s1.heap.objs.size ≤ b := by
      have e' : b = s1.heap.objs.size + 1 ∨ b = s1.heap.objs.size := by simpa using hb
      rcases e' with z | z
      · rw [z]; exact Nat.le_succ _
      · rw [z]; exact Nat.le_refl _
    exact I1.fpOk hle (I1.hok.fresh hle)
def nxE (nx : Nx) : Nx := fun i A => match nx i A with
  | some (some z) => some (some (.tup [.int (i : Nat), z]))
  | o => o
theorem jok_en {J0 J : It} {nx : Nx} {ρ : List Addr} {H : Hp} (hj : JOk g J0 nx ρ H) (hs : ∀ i H, J0.stop i H → J.stop i H) (hg : ∀ i H, J0.go i H → J.go i H)
    (hy : ∀ i H v H', J.yld i H v H' → ∃ T x, v = .ref T ∧ H T = none ∧ H' = L2.upd H T (.tup [.int (i : Nat), x]) ∧ J0.yld i H x H) : JOk g J (nxE nx) ρ H := by
  intro ρ2 H2 A2 e2 r2 i
  obtain ⟨h1, h2⟩ := hj ρ2 H2 A2 e2 r2 i
  constructor
  · intro q
    unfold nxE at q
    cases q1 : nx i A2 with
    | none => rw [q1] at q; cases q
    | some oz =>
      cases oz with
      | none => exact hs i H2 (h1 q1)
      | some z => rw [q1] at q; cases q
  · intro z q
    unfold nxE at q
    cases q1 : nx i A2 with
    | none => rw [q1] at q; cases q
    | some oz =>
      cases oz with
      | none => rw [q1] at q; cases q
      | some z0 =>
        rw [q1] at q
        cases q
        obtain ⟨go, yl⟩ := h2 z0 q1
        refine ⟨hg i H2 go, fun v H3 hv => ?_⟩
        obtain ⟨T, x, rfl, hT, rfl, y0⟩ := hy i H2 v H3 hv
        obtain ⟨_, r3, rz⟩ := yl x H2 y0
        obtain ⟨r4, e4⟩ := upd_tup (o := .tup [.int (i : Nat), x]) r3 hT
        exact ⟨e4, r4, .tup (.cons (.int _) (.cons (rz.mono e4) .nil)) (.inl upd_same)⟩
def iEnu (d : DE) : DI := fun fr A => (iVal d fr A).bd fun nx A1 => .ok (nxE nx) A1
theorem i_enum {p tpos : Pos} {elts : List Expr} {kk : Nat} (h : SE X g xi W e d) (hm : X.mg "enumerate" = none) (hg : Gl X "enumerate" := by rfl) (hK : X.K = g.K := by rfl) (hs : starEach [e] X.env = [(false, eval e X.env)] := by rfl) (hs0 : starEach [e] X.env = (false, eval e X.env) :: starEach [] X.env := by rfl) :
    SI X g xi W (.Tuple elts kk tpos) (.Call (.Name "enumerate" p) [e] [] pos) (iEnu d) := by
  have ha : PA X [e] (rd g xi W (relZs g) (dCons d dNil)) := a_cons h (a_nil (X := X) (g := g) (xi := xi) (W := W)) hs0
  refine PI.imp (PI.some (ι := Fin 3) (t := fun i => if i = 0 then iEnum X.K (rd g xi W (relZs g) (dCons d dNil)) else if i = 1 then iEnT X.K (rd g xi W (relZs g) (dCons d dNil)) else iEnS (rd g xi W (relZs g) (dCons d dNil))) fun i => ?_) fun σ H R h => ?_
  · match i with
    | 0 => exact pi_enum hg hm ha hs
    | 1 => exact pi_enT hg hm ha hs
    | 2 => exact pi_enS hg hm ha hs
  · obtain ⟨ρ, fr, A, hf, hr, h⟩ := h
    unfold iEnu iVal at h
    rw [hK]
    cases q : d fr A with
    | no => rw [q] at h; exact h.elim
    | ex x A1 =>
      rw [q] at h
      refine ⟨0, ?_⟩
      rw [if_pos rfl]
      refine ⟨ρ, fr, A, hf, hr, ?_⟩
      unfold dCons
      rw [q]
      exact h
    | ok z A1 =>
      rw [q, Zed.R.bd_ok] at h
      -- the one argument has come
      have arg : ∀ {K1 : List V → Hp → Prop}, (∀ ρ' H' v, Ext ρ H ρ' H' → RH g ρ' A1 H' → RZ g ρ' H' z v → K1 [v] H') → rd g xi W (relZs g) (dCons d dNil) σ H K1 := fun {K1} k => by
        refine ⟨ρ, fr, A, hf, hr, ?_⟩
        unfold dCons
        rw [q]
        intro ρ' H' vs e' r' rv
        cases rv with
        | cons r t =>
          cases t
          exact k ρ' H' _ e' r' r
      cases z with
      | tup zs =>
        refine ⟨1, ?_⟩
        rw [if_neg (by decide), if_pos rfl]
        refine arg fun ρ' H' v e' r' rv => ?_
        cases rv with
        | @tup _ vs ad r t =>
          refine ⟨ad, vs, rfl, t.sq, h ρ' H' _ e' r' (jok_en (jok_tup r t) (fun i H1 hs => hs) (fun i H1 hg => hg) fun i H1 v H2 hv => ?_)⟩
          obtain ⟨T, x, e1, e2, e3, e4⟩ := hv
          exact ⟨T, x, e1, e2, e3, rfl, e4⟩
      | lit zs =>
        refine ⟨0, ?_⟩
        rw [if_pos rfl]
        refine arg fun ρ' H' v e' r' rv => ?_
        cases rv with
        | @lit _ vs ad r t =>
          refine ⟨ad, vs, rfl, t.sq, h ρ' H' _ e' r' (jok_en (jok_lit r t) (fun i H1 hs => hs) (fun i H1 hg => hg) fun i H1 v H2 hv => ?_)⟩
          obtain ⟨T, x, e1, e2, e3, e4⟩ := hv
          exact ⟨T, x, e1, e2, e3, rfl, e4⟩
      | str s =>
        refine ⟨2, ?_⟩
        rw [if_neg (by decide), if_neg (by decide)]
        refine arg fun ρ' H' v e' r' rv => ?_
        cases rv
        refine ⟨s, rfl, h ρ' H' _ e' r' (jok_en jok_str (fun i H1 hs => hs) (fun i H1 hg => hg) fun i H1 v H2 hv => ?_)⟩
        obtain ⟨T, x, e1, e2, e3, e4⟩ := hv
        exact ⟨T, x, e1, e2, e3, rfl, e4⟩
      | ref n =>
        refine ⟨0, ?_⟩
        rw [if_pos rfl]
        refine arg fun ρ' H' v e' r' rv => ?_
        cases rv with
        | @ref _ ad ha =>
          dsimp only at h
          cases q2 : A1.get n with
          | none => rw [q2] at h; exact h.elim
          | some ob =>
            rw [q2] at h
            cases ob with
            | lst zs =>
              obtain ⟨vs, h1, h2⟩ := r'.lst ha q2
              refine ⟨ad, vs, rfl, SqL.of h1, h ρ' H' _ e' r' (jok_en (jok_list (A := A1) ha) (fun i H1 hs => hs) (fun i H1 hg => hg) fun i H1 v H2 hv => ?_)⟩
              obtain ⟨T, x, e1, e2, e3, e4⟩ := hv
              exact ⟨T, x, e1, e2, e3, rfl, e4⟩
            | _ => exact h.elim
      | _ => exact h.elim
end
end Zed

/-! Zed C: None asked for, signs, facts of defs. -/
namespace Zed
open PySem PySem.Spec PyProof.Rows L2
section
variable {X : Cx} {g : G} {xi : XI} {W : WX} {o e a b c : Expr} {d da db dc dO : DE} {pos : Pos}
def isNZ : Z → Bool
  | .non => true
  | _ => false
def nonZ (f : Bool → Bool) (d : DE) : DE := fun fr A => (d fr A).bd fun z A1 => .ok (.bl (f (isNZ z))) A1
def dIsN (d : DE) : DE := nonZ id d
def dNoN (d : DE) : DE := nonZ not d
theorem non_rel {ρ : List Addr} {H : Hp} {z : Z} {v : V} (r : RZ g ρ H z v) : isNZ z = decide (v = .non) := by
  cases r <;> rfl
theorem e_isN {j : Nat} {pos' : Pos} (h : SE X g xi W a d) : SE X g xi W (.Compare a [.Is] [.Constant .none j pos'] pos) (dIsN d) := by
  refine PE.imp (pe_cmp (pc_isN h)) fun σ H Q h => ?_
  obtain ⟨ρ, fr, A, hf, hr, h⟩ := h
  refine bd_run hf hr h fun z A1 ρ1 H1 v e1 hf1 hr1 rz ho1 => ?_
  rw [non_rel rz] at ho1
  exact ho1 ρ1 H1 _ (.refl _ _) hr1 (.bl _)
theorem e_noN {j : Nat} {pos' : Pos} (h : SE X g xi W a d) : SE X g xi W (.Compare a [.IsNot] [.Constant .none j pos'] pos) (dNoN d) := by
  refine PE.imp (pe_cmp (pc_notN h)) fun σ H Q h => ?_
  obtain ⟨ρ, fr, A, hf, hr, h⟩ := h
  refine bd_run hf hr h fun z A1 ρ1 H1 v e1 hf1 hr1 rz ho1 => ?_
  rw [non_rel rz] at ho1
  exact ho1 ρ1 H1 _ (.refl _ _) hr1 (.bl _)
theorem t_isN {j : Nat} {pos' : Pos} (h : SE X g xi W a d) : STs X g xi W (.Compare a [.Is] [.Constant .none j pos'] pos) (dTst (dIsN d)) := by
  refine PT.imp (pt_cmp (pc_isN h)) fun σ H Q h => ?_
  have h := tb_run h
  obtain ⟨ρ, fr, A, hf, hr, h⟩ := h
  refine bd_run hf hr h fun z A1 ρ1 H1 v e1 hf1 hr1 rz ho1 => ?_
  rw [non_rel rz] at ho1
  exact ho1 ρ1 H1 _ (.refl _ _) hr1 (.bl _)
theorem t_noN {j : Nat} {pos' : Pos} (h : SE X g xi W a d) : STs X g xi W (.Compare a [.IsNot] [.Constant .none j pos'] pos) (dTst (dNoN d)) := by
  refine PT.imp (pt_cmp (pc_notN h)) fun σ H Q h => ?_
  have h := tb_run h
  obtain ⟨ρ, fr, A, hf, hr, h⟩ := h
  refine bd_run hf hr h fun z A1 ρ1 H1 v e1 hf1 hr1 rz ho1 => ?_
  rw [non_rel rz] at ho1
  exact ho1 ρ1 H1 _ (.refl _ _) hr1 (.bl _)
def unZ (f : Int → Int) (z : Z) (A : ZH) : R Z := match z with
  | .int i => .ok (.int (f i)) A
  | _ => .no
theorem z_un (f : Int → Int) : UnZ g (rU fun i => .int (f i)) (unZ f) := fun W σ ρ A H z v Q R r h => by
  cases r with
  | int i => exact ⟨i, rfl, h ρ H _ (.refl _ _) R (.int _)⟩
  | _ => exact h.elim
def negZ : Z → ZH → R Z := unZ fun i => -i
def invZ : Z → ZH → R Z := unZ Builtin.bitNot
theorem z_neg : UnZ g (rU fun i => .int (-i)) negZ := z_un _
theorem z_inv : UnZ g (rU fun i => .int (Builtin.bitNot i)) invZ := z_un _
end
end Zed

/-! Zed D: what a printed proof wants: defs by fuel, facts of defs and classes, own exceptions' __init__, the law's end. -/
namespace Zed
open PySem PySem.Spec PyProof.Rows L2
/-- no promise -/
def fno : Fn := fun _ _ => .no
abbrev big : Nat := 1000000000
section
variable {P : Program} {w : World} {K : PySem.W.Frag} {mg : Str → Option Value} {base : Heap} {g : G} {k : Nat} {f C : Addr} {fd : FuncData} {ps : List Str}
theorem fnz_no {n : Nat} (h : ps.length = n) : FnZ P w K mg base k f fd ps (spZ g n fno) := by
  constructor
  · intro vs H Q E q
    rw [q.1, h]
  · intro A outer s H args us vs Q E r e b v q
    obtain ⟨_, ρ, B, zs, _, _, z⟩ := q
    exact z.elim
theorem cal_mk {x qual : Str} {st : Stmt} {n : Nat} {F : Fn} (m : mg x = some (.ref f)) (fu : Fun g.K x qual st f fd) (hn : ps.length = n) (bi : Binds g.K fd ps []) (h : FnZ P w g.K mg base k f fd ps (spZ g n F)) : CalZ P w mg base g k x n [] F :=
  ⟨f, fd, ps, [], [], hn, m, fu.kp, bi, .nil, fun _ _ => .nil, h⟩
theorem met_mk {c : Nat} {m x qual : Str} {st : Stmt} {n : Nat} {F : Fn} (cz : ClZ g c) (nf : m ∉ g.fld c) (mm : Meth g.K (g.cls c) m f) (hn : ps.length = n) (bi : Binds g.K fd ps []) (h : FnZ P w g.K mg base k f fd ps (spZ g n F)) : MetZ P w mg base g k c m n [] F :=
  ⟨cz, nf, f, fd, ps, [], [], hn, mm, bi, .nil, fun _ _ => .nil, h⟩
theorem mak_mk {c : Nat} {x : Str} {n : Nat} {F : Fn} (cz : ClZ g c) (m : mg x = some (.ref (g.cls c))) (mk : Mk g.K (g.cls c) f) (hn : ps.length = n) (bi : Binds g.K fd ps []) (h : FnZ P w g.K mg base k f fd ps (spZ g n F)) : MakZ P w mg base g k x c n [] F :=
  ⟨cz, f, fd, ps, [], [], hn, m, mk, bi, .nil, fun _ _ => .nil, h⟩
theorem CalZ.mono {x : Str} {n j : Nat} {dz : List Z} {F : Fn} (c : CalZ P w mg base g j x n dz F) (h : j ≤ k) : CalZ P w mg base g k x n dz F :=
  let ⟨f, fd, ps, ds, dvs, h1, h2, h3, h4, h5, h6, h7⟩ := c
  ⟨f, fd, ps, ds, dvs, h1, h2, h3, h4, h5, h6, h7.mono h⟩
theorem MetZ.mono {c n j : Nat} {m : Str} {dz : List Z} {F : Fn} (q : MetZ P w mg base g j c m n dz F) (h : j ≤ k) : MetZ P w mg base g k c m n dz F :=
  let ⟨a1, a2, f, fd, ps, ds, dvs, h1, h2, h3, h4, h5, h7⟩ := q
  ⟨a1, a2, f, fd, ps, ds, dvs, h1, h2, h3, h4, h5, h7.mono h⟩
theorem MakZ.mono {x : Str} {c n j : Nat} {dz : List Z} {F : Fn} (q : MakZ P w mg base g j x c n dz F) (h : j ≤ k) : MakZ P w mg base g k x c n dz F :=
  let ⟨a1, f, fd, ps, ds, dvs, h1, h2, h3, h4, h5, h6, h7⟩ := q
  ⟨a1, f, fd, ps, ds, dvs, h1, h2, h3, h4, h5, h6, h7.mono h⟩

def NaL (K : PySem.W.Frag) (C : Addr) : List Str → Prop
  | [] => True
  | f :: r => NoAttr K C f ∧ NaL K C r
theorem NaL.all : ∀ {l : List Str}, NaL K C l → ∀ f ∈ l, NoAttr K C f
  | _ :: _, h, f, hf => by
    rcases List.mem_cons.mp hf with e | e
    · rw [e]; exact h.1
    · exact NaL.all h.2 f e
/-- THE RULE of a def, with what its steps ask of the place -/
theorem fnz_defT {x qual : Str} {st : Stmt} {N : List Str} {d : DS} (F : Fun g.K x qual st f fd) (S : FnScope N ps (defScope st))
    (hb : ∀ (cdv : Value) (A : Around) (outer : List Env) (s : Shared) (H : Hp) (E : XK), RoomZ k (cxZ P w g mg base N qual (defScope st) f cdv A outer s H E).A → Takes (cxZ P w g mg base N qual (defScope st) f cdv A outer s H E) (wZ E) →
      PassesOwn (model P w) (cxZ P w g mg base N qual (defScope st) f cdv A outer s H E).A (cxZ P w g mg base N qual (defScope st) f cdv A outer s H E).env (cxZ P w g mg base N qual (defScope st) f cdv A outer s H E).xe →
      (cxZ P w g mg base N qual (defScope st) f cdv A outer s H E).A.units + 64 < cLine → SSs (cxZ P w g mg base N qual (defScope st) f cdv A outer s H E) g none (wZ E) (defBody st) d) :
    FnZ P w g.K mg base (k + 1) f fd ps (spZ g ps.length (runD N.length d)) :=
  fnz_def F S fun cdv A outer s H E room => hb cdv A outer s H E room (takes_of rfl rfl rfl rfl) (passes_of rfl) room.un64
theorem gl_str {X : Cx} {x s : Str} (h : ∃ t, X.mg x = some (.str s t)) : GlZ X g x (.str s) := let ⟨t, h⟩ := h; ⟨_, .str s, h, ⟨t, rfl⟩, fun _ _ => .str s⟩
theorem gl_int {X : Cx} {x : Str} {i : Int} (h : ∃ t, X.mg x = some (.int i t)) : GlZ X g x (.int i) := let ⟨t, h⟩ := h; ⟨_, .int i, h, ⟨t, rfl⟩, fun _ _ => .int i⟩

/-! ### an own exception's __init__ -/
section
variable {f1 f2 : Str} {H : Hp} {Q : VK} {E : XK} {vs : List V}
theorem xi_len {n : Nat} {fs : List Str} (h : spX n C fs vs H Q E) : vs.length = n := h.1
theorem xi_run1 {x1 x2 : Str} (T : OexC K C) (n1 : PySem.W.findIn K (.ref C) f1 = some none) (h : spX 2 C [f1] vs H Q E) :
    tOst K f1 (tVar 0) (tVar 1) { nx := fun _ H' => Q .non H', rt := Q } (L2.start [x1, x2] vs) H := by
  obtain ⟨_, a, ws, rfl, hw, ha, k⟩ := h
  match ws, hw with
  | [y], _ => exact ⟨_, rfl, _, rfl, a, C, rfl, T, n1, .inl ⟨ha, fun dx h1 h2 => k dx h1 h2⟩⟩
theorem xi_run2 {x1 x2 x3 : Str} (T : OexC K C) (n1 : PySem.W.findIn K (.ref C) f1 = some none) (n2 : PySem.W.findIn K (.ref C) f2 = some none) (h : spX 3 C [f1, f2] vs H Q E) :
    tSeq (tOst K f1 (tVar 0) (tVar 1)) (tOst K f2 (tVar 0) (tVar 2)) { nx := fun _ H' => Q .non H', rt := Q } (L2.start [x1, x2, x3] vs) H := by
  obtain ⟨_, a, ws, rfl, hw, ha, k⟩ := h
  match ws, hw with
  | [y, z], _ =>
    refine ⟨_, rfl, _, rfl, a, C, rfl, T, n1, .inl ⟨ha, fun dx h1 h2 => ?_⟩⟩
    refine ⟨_, rfl, _, rfl, a, C, rfl, T, n2, .inr ⟨dx, _, upd_same, by rw [upd_ne h2, upd_same], by show 1 ≤ 900; decide, ?_⟩⟩
    have q := k dx h1 h2
    have e : upd (upd (upd H dx (exd dx [(f1, y)])) a (exo a C (some dx))) dx (exd dx ((f2, z) :: [(f1, y)])) = upd (upd H dx (exd dx (List.zip [f1, f2] [y, z]).reverse)) a (exo a C (some dx)) := by
      funext b
      by_cases hb : b = dx
      · subst hb
        rw [upd_same, upd_ne h2, upd_same]
        rfl
      · rw [upd_ne hb]
        by_cases hc : b = a
        · subst hc
          rw [upd_same, upd_same]
        · rw [upd_ne hc, upd_ne hc, upd_ne hb, upd_ne hb]
    rw [e]
    exact q
end
/-- which clause an exception's class meets -/
theorem exm_of {S : Addr} {b : Bool} (h1 : PySem.W.subIn K (.ref S) (.type "BaseException") = some true) (h2 : PySem.W.isClsIn K S = true) (h3 : PySem.W.typeIn K (.ref S) = some (.type "type")) (h4 : PySem.W.subIn K (.ref C) (.ref S) = some b) : PySem.W.exmOne K (.ref C) (.ref S) = some b := by
  have e1 : (PySem.W.subIn K (.ref S) (.type "BaseException") == some true) = true := by rw [h1]; rfl
  have e2 : ((PySem.W.clsIn K S).isSome && PySem.W.typeIn K (.ref S) == some (.type "type")) = true := by
    have q : (PySem.W.clsIn K S).isSome = true := h2
    rw [q, h3]
    rfl
  show (if _ = true then (if _ = true then _ else none) else none) = some b
  rw [if_pos e1, if_pos e2]
  exact h4
theorem exm_nil {S : Addr} : ∀ q ∈ ([] : List (Nat × Bool)), PySem.W.exmOne K (.ref (g.cls q.1)) (.ref S) = some q.2 := fun q h => by cases h
theorem exm_cons {S : Addr} {c : Nat} {b : Bool} {tb : List (Nat × Bool)} (h : PySem.W.exmOne K (.ref (g.cls c)) (.ref S) = some b) (t : ∀ q ∈ tb, PySem.W.exmOne K (.ref (g.cls q.1)) (.ref S) = some q.2) : ∀ q ∈ (c, b) :: tb, PySem.W.exmOne K (.ref (g.cls q.1)) (.ref S) = some q.2 := fun q hq => by
  rcases List.mem_cons.mp hq with e | hq
  · subst e; exact h
  · exact t q hq
theorem exm_tab {S : Addr} : ∀ {tb : List (Nat × Bool)}, (∀ q ∈ tb, PySem.W.exmOne K (.ref (g.cls q.1)) (.ref S) = some q.2) → ∀ k b, tb.lookup k = some b → PySem.W.exmOne K (.ref (g.cls k)) (.ref S) = some b := fun h k b e => h (k, b) (lookup_mem e)

/-! ### the end -/
theorem FnZ.ok {sp : Sp} {kz : Nat} (F : FnZ P w K mg base kz f fd ps sp) (h1 : kz + 30 ≤ 3 * k + 5) (h2 : 4 * kz + 400 ≤ 16 * k + 200) : FnOk P w K mg base (L2.CX P w) k f fd ps sp :=
  ⟨F.len, fun A outer s H args us vs Q E r => F.run A outer s H args us vs Q E ⟨r.hd, by have := r.dp; omega, by have := r.un; omega⟩⟩
theorem rh_nil {H : Hp} : RH g [] ZH.nil H := ⟨rfl, List.nodup_nil, fun n a h => by simp at h⟩
theorem ints_rz {ρ : List Addr} {H : Hp} : ∀ ns : List Int, RZs g ρ H (ns.map Z.int) (ns.map V.int)
  | [] => .nil
  | n :: ns => .cons (.int n) (ints_rz ns)
theorem only_lit {H : Hp} {a : Addr} {xs : List V} (hO : Only H) (h : SqL g.K H a xs) : LitAt g.K H a xs := by
  rcases h with h | h
  · rcases h with h | ⟨o, h⟩
    · rcases hO a with q | ⟨o, ys, q⟩
      · rw [q] at h; cases h
      · rw [q] at h; cases h
    · exact .inl ⟨o, h⟩
  · exact .inr h
/-- the law's def, of the script, tells True -/
theorem law_true {F : Fn} {H : Hp} {a : Addr} {ns : List Int} {A' : ZH} (hO : Only H) (h : SqL g.K H a (ns.map V.int)) (e : F [.lit (ns.map Z.int)] ZH.nil = .ok (.bl true) A') : spZ g 1 F [.ref a] H (fun v _ => v = .bl true) fun _ _ _ => False := by
  refine ⟨rfl, [], ZH.nil, [.lit (ns.map Z.int)], rh_nil, .cons (.lit (ints_rz ns) (only_lit hO h)) .nil, ?_⟩
  rw [e]
  intro ρ' H' v e' r' rv
  cases rv
  rfl
end
end Zed

/-! Zed E: the law's head. -/
namespace Zed
open PySem PySem.Spec PyProof.Rows L2
theorem cx_none {P : Program} {w : World} {H : Hp} {s s' : Shared} {e : Value} (h : L2.CX P w [] H s (fun _ _ _ => False) e s') : False := by
  obtain ⟨_, _, _, _, _, _, _, _, _, _, _, _, z⟩ := h
  exact z
/-- the script is handed in, True comes out -/
def spT (K : PySem.W.Frag) (n : Nat) : Sp := fun vs H Q _ => ∃ (a : Addr) (ns : List Int), vs = [.ref a] ∧ ns.length ≤ n ∧ (∀ z ∈ ns, Builtin.Int.intBits z ≤ 1048576) ∧ Only H ∧ SqL K H a (ns.map V.int) ∧ ∀ H', Q (.bl true) H'
theorem walkZ {l : PySem.W.OpenLaw} {n kz : Nat} {q : Program} {loose : List Str} {XP : (Str → Option Value) → Heap → Prop} {YP : World → Heap → Prop} {d : DefRec} {K : Params → PySem.W.Frag} {x : Str} {F : Fn}
    (hn : l.most = some n) (hn2 : n ≤ sizeLine) (hdf : d.params.defaults = []) (hk : kz ≤ 668)
    (law : ∀ ns : List Int, ns.length ≤ n → (∀ z ∈ ns, Builtin.Int.intBits z ≤ 1048576) → ∃ A', F [.lit (ns.map Z.int)] ZH.nil = .ok (.bl true) A')
    (hY : ∀ (w : World) (h : Heap), YP w h → (K w.params).In h)
    (FF : ∀ (w : World) (mg : Str → Option Value) (fa : Addr) (h : Heap), (K w.params).In h → h.Ns mainGlobals mg → mg d.name = some (.ref fa) →
      ∃ (g : G) (fd : FuncData), g.K = K w.params ∧ (∀ (s : Shared) (u : Value), BindsTo s fd ⟨[u], []⟩ [(x, u)]) ∧ ∀ base : Heap, FnZ l.prog w g.K mg base kz fa fd [x] (spZ g 1 F)) :
    PySem.W.WalkO q loose XP YP l.row.toRowW d [] (fun f vs => PySem.call f vs) := by
  refine L2.walk_ofB (n := n) (k := 231) (x := x) (CX := fun w => L2.CX l.prog w) (sp := fun w => spT (K w.params) n) hn hn2 hdf ⟨rfl, by decide, by decide⟩ hY (fun w mg fa h k1 k2 k3 => ?_) (fun w H a ns h1 h2 h3 h4 => ⟨a, ns, rfl, h1, h2, h3, h4, fun _ => rfl⟩) fun w H s e s' z => cx_none z
  obtain ⟨g, fd, hK, hb, hF⟩ := FF w mg fa h k1 k2 k3
  refine ⟨fd, hb, fun base _ _ => ?_⟩
  have G := (hF base).ok (k := 231) (by omega) (by omega)
  rw [hK] at G
  refine G.imp fun vs H Q E h => ?_
  obtain ⟨a, ns, rfl, h1, h2, h3, h4, h5⟩ := h
  obtain ⟨A', e⟩ := law ns h1 h2
  refine ⟨rfl, [], ZH.nil, [.lit (ns.map Z.int)], rh_nil, .cons (.lit (ints_rz ns) (only_lit h3 (by rw [hK]; exact h4))) .nil, ?_⟩
  rw [e]
  intro ρ' H' v e' r' rv
  cases rv
  exact h5 H'
end Zed

/-! Zed S: the denotations' equations, for simp. -/
namespace Zed
open PySem PySem.Spec L2
section
variable {fr : Fr} {A : ZH}
@[simp] theorem q_var (i : Nat) : dVar i fr A = match fr[i]? with
  | some (.va z) => .ok z A
  | _ => .no := rfl
@[simp] theorem q_c (z : Z) : dC z fr A = .ok z A := rfl
@[simp] theorem q_bin (f : Z → Z → ZH → R Z) (a b : DE) : dBin f a b fr A = (a fr A).bd fun x A1 => (b fr A1).bd fun y A2 => f x y A2 := rfl
@[simp] theorem q_un (f : Z → ZH → R Z) (a : DE) : dUn f a fr A = (a fr A).bd fun x A1 => f x A1 := rfl
@[simp] theorem q_tst (d : DE) : dTst d fr A = (d fr A).tb := rfl
@[simp] theorem q_tru (d : DE) : dTru d fr A = (d fr A).bd truZ := rfl
@[simp] theorem q_not (d : DT) : dNot d fr A = (d fr A).bd fun b A1 => .ok (!b) A1 := rfl
@[simp] theorem q_and (t u : DT) : dAnd t u fr A = (t fr A).bd fun b A1 => if b = true then u fr A1 else .ok false A1 := rfl
@[simp] theorem q_or (t u : DT) : dOr t u fr A = (t fr A).bd fun b A1 => if b = true then .ok true A1 else u fr A1 := rfl
@[simp] theorem q_andV (a b : DE) : dAndV a b fr A = (a fr A).bd fun x A1 => (truZ x A1).bd fun c A2 => if c = true then b fr A2 else .ok x A2 := rfl
@[simp] theorem q_orV (a b : DE) : dOrV a b fr A = (a fr A).bd fun x A1 => (truZ x A1).bd fun c A2 => if c = true then .ok x A2 else b fr A2 := rfl
@[simp] theorem q_notV (a : DE) : dNotV a fr A = (a fr A).bd fun x A1 => (truZ x A1).bd fun c A2 => .ok (.bl (!c)) A2 := rfl
@[simp] theorem q_if (t : DT) (a b : DE) : dIf t a b fr A = (t fr A).bd fun c A1 => if c = true then a fr A1 else b fr A1 := rfl
@[simp] theorem q_nil : dNil fr A = .ok [] A := rfl
@[simp] theorem q_cons (a : DE) (r : DA) : dCons a r fr A = (a fr A).bd fun x A1 => (r fr A1).bd fun xs A2 => .ok (x :: xs) A2 := rfl
@[simp] theorem q_tup (d : DA) : dTup d fr A = (d fr A).bd fun xs A1 => if xs.length ≤ sizeLine then .ok (.tup xs) A1 else .no := rfl
@[simp] theorem q_lst (d : DA) : dLst d fr A = (d fr A).bd fun xs A1 => if xs.length ≤ sizeLine then .ok (.ref A1.n) (A1.push (.lst xs)) else .no := rfl
@[simp] theorem q_dict0 : dDict0 fr A = .ok (.ref A.n) (A.push (.dct [])) := rfl
@[simp] theorem q_call (F : Fn) (dz : List Z) (d : DA) : dCall F dz d fr A = (d fr A).bd fun zs A1 => F (zs ++ dz) A1 := rfl
@[simp] theorem q_cb (f : List Z → ZH → R Z) (d : DA) : dCB f d fr A = (d fr A).bd f := rfl
@[simp] theorem q_nop : dNop fr A = .nx fr A := rfl
@[simp] theorem q_seq (a b : DS) : dSeq a b fr A = (a fr A).sq b := rfl
@[simp] theorem q_brk : dBrk fr A = .bk fr A := rfl
@[simp] theorem q_cnt : dCnt fr A = .ct fr A := rfl
@[simp] theorem q_exp (d : DE) : dExp d fr A = (d fr A).st fr fun _ A1 => .nx fr A1 := rfl
@[simp] theorem q_ret (d : DE) : dRet d fr A = (d fr A).st fr fun z A1 => .rt z A1 := rfl
@[simp] theorem q_retN : dRetN fr A = .rt .non A := rfl
@[simp] theorem q_ite (t : DT) (a b : DS) : dIte t a b fr A = (t fr A).st fr fun c A1 => if c = true then a fr A1 else b fr A1 := rfl
@[simp] theorem q_set (i : Nat) (d : DE) : dSet i d fr A = (d fr A).st fr fun z A1 => .nx (fr.set i (.va z)) A1 := rfl
@[simp] theorem q_asg (d : DE) (g : DG) : dAsg d g fr A = (d fr A).st fr fun z A1 => g z fr A1 := rfl
@[simp] theorem q_par (is : List Nat) (d : DA) : dPar is d fr A = (d fr A).st fr fun zs A1 => match setAll is zs fr with
  | some fr1 => .nx fr1 A1
  | none => .no := rfl
@[simp] theorem q_setA0 : setAll [] [] fr = some fr := rfl
@[simp] theorem q_setA (i : Nat) (is : List Nat) (z : Z) (zs : List Z) : setAll (i :: is) (z :: zs) fr = setAll is zs (fr.set i (.va z)) := rfl
@[simp] theorem q_gnm (i : Nat) (z : Z) : gNm i z fr A = .nx (fr.set i (.va z)) A := rfl
@[simp] theorem q_gno : gNo [] fr A = .nx fr A := rfl
@[simp] theorem q_gco (d : DG) (r : DGs) (z : Z) (zs : List Z) : gCo d r (z :: zs) fr A = (d z fr A).sq fun fr1 A1 => r zs fr1 A1 := rfl
@[simp] theorem q_gsb (f : Z → Z → Z → ZH → Option ZH) (dO dI : DE) (z : Z) : gSb f dO dI z fr A = (dO fr A).st fr fun o A1 => (dI fr A1).st fr fun i A2 => match f o i z A2 with
  | some A3 => .nx fr A3
  | none => .no := rfl
@[simp] theorem q_for (n : Nat) (src : DI) (dg : DG) (b : DS) : dFor n src dg b fr A = (src fr A).st fr fun nx A1 => dLoop nx dg b n 0 fr A1 := rfl
@[simp] theorem q_rg1 (d : DE) : iRg1 d fr A = (d fr A).bd fun z A1 => match z with
  | .int i => if lim62 i = true then .ok (nxR 0 i.toNat) A1 else .no
  | _ => .no := rfl
@[simp] theorem q_enu (d : DE) : iEnu d fr A = (iVal d fr A).bd fun nx A1 => .ok (nxE nx) A1 := rfl
@[simp] theorem q_isN (d : DE) : dIsN d fr A = (d fr A).bd fun z A1 => .ok (.bl (isNZ z)) A1 := rfl
@[simp] theorem q_noN (d : DE) : dNoN d fr A = (d fr A).bd fun z A1 => .ok (.bl (!isNZ z)) A1 := rfl
@[simp] theorem q_nop' : dNoP fr A = .ok none A := rfl
@[simp] theorem q_pt (d : DE) : dPt d fr A = (d fr A).bd fun z A1 => match z with
  | .int i => .ok (some i) A1
  | _ => .no := rfl
@[simp] theorem q_sl (d : DE) (lo hi : DP) : dSl d lo hi fr A = (d fr A).bd fun x A1 => (lo fr A1).bd fun l A2 => (hi fr A2).bd fun u A3 => slZ x l u A3 := rfl
@[simp] theorem q_raise (c n : Nat) (d : DA) : dRaise c n d fr A = (d fr A).st fr fun zs A1 => if zs.length = n then .ex (c, zs.map some) fr A1 else .no := rfl
@[simp] theorem q_lc (n : Nat) (src : DI) (c : CT) (tt : DT) (te : DE) (own : List Nat) : dLc n src c tt te own fr A = (src fr A).bd fun nx A1 => dLcL nx c tt te (wipeF fr own) n 0 [] A1 := rfl
@[simp] theorem q_yes : dYes fr A = .ok true A := rfl
@[simp] theorem q_bm (ty : Z → ZH → Bool) (f : Z → List Z → ZH → R Z) (dO : DE) (da : DA) : dBM ty f dO da fr A = (dO fr A).bd fun z A1 => if ty z A1 = true then (da fr A1).bd fun zs A2 => f z zs A2 else .no := rfl
@[simp] theorem q_meth (tb : List (Nat × Fn)) (dO : DE) (da : DA) (dz : List Z) : dMeth tb dO da dz fr A = (dO fr A).bd fun v A1 => match v with
  | .ref n => match A1.get n with
    | some (.ins c _) => match tb.lookup c with
      | some F => (da fr A1).bd fun zs A2 => F (v :: (zs ++ dz)) A2
      | none => .no
    | _ => .no
  | _ => .no := rfl
@[simp] theorem q_fld (tb : List (Nat × Nat)) (dO : DE) : dFld tb dO fr A = (dO fr A).bd fun v A1 => match v with
  | .ref n => match A1.get n with
    | some (.ins c fs) => match tb.lookup c with
      | some i => match getF fs i with
        | some z => .ok z A1
        | none => .no
      | none => .no
    | _ => .no
  | _ => .no := rfl
@[simp] theorem q_sfld (tb : List (Nat × Nat)) (dO dv : DE) : dSetFld tb dO dv fr A = (dv fr A).st fr fun z A1 => (dO fr A1).st fr fun v A2 => match v with
  | .ref n => match A2.get n with
    | some (.ins c fs) => match tb.lookup c with
      | some i => .nx fr (A2.set n (.ins c (setF fs i z)))
      | none => .no
    | _ => .no
  | _ => .no := rfl
@[simp] theorem v_app (n : Nat) (z : Z) : appZ (.ref n) [z] A = match A.get n with
  | some (.lst xs) => if xs.length < sizeLine then .ok .non (A.set n (.lst (xs ++ [z]))) else .no
  | _ => .no := rfl
@[simp] theorem v_isL (n : Nat) : isL (.ref n) A = (match A.get n with
  | some (.lst xs) => some xs
  | _ => none : Option (List Z)).isSome := rfl
/-- values -/
@[simp] theorem v_addI (i j : Int) : addZ (.int i) (.int j) A = .ok (.int (i + j)) A := rfl
@[simp] theorem v_addS (s t : Str) : addZ (.str s) (.str t) A = if s.length + t.length ≤ sizeLine then .ok (.str (s ++ t)) A else .no := rfl
@[simp] theorem v_addT (xs ys : List Z) : addZ (.tup xs) (.tup ys) A = if xs.length + ys.length ≤ sizeLine then .ok (.tup (xs ++ ys)) A else .no := rfl
@[simp] theorem v_addR (m n : Nat) : addZ (.ref m) (.ref n) A = match itemsZ (.ref m) A, itemsZ (.ref n) A with
  | some xs, some ys => if xs.length + ys.length ≤ sizeLine then .ok (.ref A.n) (A.push (.lst (xs ++ ys))) else .no
  | _, _ => .no := rfl
@[simp] theorem v_addL (xs : List Z) (n : Nat) : addZ (.lit xs) (.ref n) A = match itemsZ (.lit xs) A, itemsZ (.ref n) A with
  | some xs, some ys => if xs.length + ys.length ≤ sizeLine then .ok (.ref A.n) (A.push (.lst (xs ++ ys))) else .no
  | _, _ => .no := rfl
@[simp] theorem v_itL (xs : List Z) : itemsZ (.lit xs) A = some xs := rfl
@[simp] theorem v_itR (n : Nat) : itemsZ (.ref n) A = match A.get n with
  | some (.lst xs) => some xs
  | _ => none := rfl
@[simp] theorem v_subI (i j : Int) : subZ (.int i) (.int j) A = .ok (.int (i - j)) A := rfl
@[simp] theorem v_mulI (i j : Int) : mulZ (.int i) (.int j) A = if mulOk i j = true then .ok (.int (i * j)) A else .no := rfl
@[simp] theorem v_ltI (i j : Int) : ltZ (.int i) (.int j) A = .ok (.bl (decide (i < j))) A := rfl
@[simp] theorem v_leI (i j : Int) : leZ (.int i) (.int j) A = .ok (.bl (decide (i ≤ j))) A := rfl
@[simp] theorem v_gtI (i j : Int) : gtZ (.int i) (.int j) A = .ok (.bl (decide (j < i))) A := rfl
@[simp] theorem v_geI (i j : Int) : geZ (.int i) (.int j) A = .ok (.bl (decide (j ≤ i))) A := rfl
@[simp] theorem v_modI (i j : Int) : modZ (.int i) (.int j) A = if decide (0 < j) = true then .ok (.int (i % j)) A else .no := rfl
@[simp] theorem v_divI (i j : Int) : divZ (.int i) (.int j) A = if (decide (0 < j) && decide (j.natAbs.log2 < 9000)) = true then .ok (.int (i / j)) A else .no := rfl
@[simp] theorem v_powI (i j : Int) : powZ (.int i) (.int j) A = if (decide (0 ≤ j) && decide (j ≤ 1000000) && decide (i.natAbs < 2 ^ 64)) = true then .ok (.int (i ^ j.toNat)) A else .no := rfl
@[simp] theorem v_ixT (xs : List Z) (i : Int) : ixZ (.tup xs) (.int i) A = match atI xs i with
  | some z => .ok z A
  | none => .no := rfl
@[simp] theorem v_ixR (n : Nat) (i : Int) : ixZ (.ref n) (.int i) A = match itemsZ (.ref n) A with
  | some xs => match atI xs i with
    | some z => .ok z A
    | none => .no
  | none => .no := rfl
@[simp] theorem v_setR (n : Nat) (i : Int) (v : Z) : setZ (.ref n) (.int i) v A = match A.get n with
  | some (.lst xs) => match ixN xs.length i with
    | some j => some (A.set n (.lst (xs.set j v)))
    | none => none
  | _ => none := rfl
@[simp] theorem v_slS (s : Str) (lo hi : Option Int) : slZ (.str s) lo hi A = if s.length ≤ sizeLine then .ok (.str (cutS s lo hi)) A else .no := rfl
@[simp] theorem v_slT (xs : List Z) (lo hi : Option Int) : slZ (.tup xs) lo hi A = .ok (.tup (cutZ xs lo hi)) A := rfl
@[simp] theorem v_slR (n : Nat) (lo hi : Option Int) : slZ (.ref n) lo hi A = match itemsZ (.ref n) A with
  | some xs => .ok (.ref A.n) (A.push (.lst (cutZ xs lo hi)))
  | none => .no := rfl
@[simp] theorem v_lenS (s : Str) : lenZ [.str s] A = if s.length ≤ sizeLine then .ok (.int (s.length : Nat)) A else .no := rfl
@[simp] theorem v_lenT (xs : List Z) : lenZ [.tup xs] A = .ok (.int (xs.length : Nat)) A := rfl
@[simp] theorem v_lenR (n : Nat) : lenZ [.ref n] A = match A.get n with
  | some (.lst xs) => .ok (.int (xs.length : Nat)) A
  | some (.dct kvs) => .ok (.int (kvs.length : Nat)) A
  | _ => .no := rfl
@[simp] theorem v_abs (i : Int) : absZ [.int i] A = .ok (.int (if i < 0 then -i else i)) A := rfl
@[simp] theorem v_intI (i : Int) : intfZ [.int i] A = .ok (.int i) A := rfl
@[simp] theorem v_intB (k : Bool) : intfZ [.bl k] A = .ok (.int (if k then 1 else 0)) A := rfl
@[simp] theorem v_tupR (n : Nat) : tupfZ [.ref n] A = match A.get n with
  | some (.lst xs) => .ok (.tup xs) A
  | _ => .no := rfl
@[simp] theorem v_neg (i : Int) : negZ (.int i) A = .ok (.int (-i)) A := rfl
@[simp] theorem v_truB (b : Bool) : truZ (.bl b) A = .ok b A := rfl
@[simp] theorem v_truN : truZ .non A = .ok false A := rfl
@[simp] theorem v_truI (i : Int) : truZ (.int i) A = .ok (i != 0) A := rfl
@[simp] theorem v_isN : isNZ .non = true := rfl
@[simp] theorem v_isI (i : Int) : isNZ (.int i) = false := rfl
@[simp] theorem v_isT (xs : List Z) : isNZ (.tup xs) = false := rfl
theorem eqv_i (i j : Int) : PyData.eqv (.int i) (.int j) = decide (i = j) := by
  show (i == j) = _
  by_cases h : i = j
  · subst h; simp
  · simp [h]
@[simp] theorem v_eqI (i j : Int) : eqZ (.int i) (.int j) A = .ok (.bl (decide (i = j))) A := by
  show R.ok (Z.bl (PyData.eqv _ _)) A = _
  rw [eqv_i]
@[simp] theorem v_neI (i j : Int) : neZ (.int i) (.int j) A = .ok (.bl (!decide (i = j))) A := by
  show R.ok (Z.bl (!PyData.eqv _ _)) A = _
  rw [eqv_i]
/-- in a text: one sign -/
theorem v_inS (c : Nat) (t : Str) : inV' (.str ⟨#[c]⟩) (.str t) A = .ok (.bl (decide (c ∈ t.cps.toList))) A := by
  show (R.bd (.ok (!(Builtin.Str.occurrences t ⟨#[c]⟩ 0 t.length 1).isEmpty) A) _) = _
  rw [PySem.StrLaws.found_one t c]
  rfl
end
end Zed

/-! Zed T: loops whose turns are plain. -/
namespace Zed
open PySem PySem.Spec L2
theorem nxS_at {zs us : List Z} {z : Z} {i : Nat} (h : zs.drop i = z :: us) (A : ZH) : nxS zs i A = some (some z) := by
  unfold nxS
  rw [← List.head?_drop, h]
  rfl
theorem nxS_end {zs : List Z} {i : Nat} (h : zs.drop i = []) (A : ZH) : nxS zs i A = some none := by
  unfold nxS
  rw [← List.head?_drop, h]
  rfl
theorem drop_next {α : Type} {zs us : List α} {z : α} {i : Nat} (h : zs.drop i = z :: us) : zs.drop (i + 1) = us := by
  rw [← List.drop_drop, h]
  rfl
/-- [f z for z in zs if P z], nothing done to the heap -/
theorem lc_pure {zs : List Z} {k : Nat} {tt : DT} {te : DE} {fr : Fr} {A : ZH} {P : Z → Bool} {f : Z → Z} (h : ∀ z ∈ zs, tt (fr.set k (.va z)) A = .ok (P z) A) (h2 : ∀ z ∈ zs, P z = true → te (fr.set k (.va z)) A = .ok (f z) A) :
    ∀ (us : List Z) (i : Nat) (acc : List Z) (n : Nat), zs.drop i = us → us.length < n → acc.length + us.length ≤ sizeLine →
      dLcL (nxS zs) (.one k) tt te fr n i acc A = .ok (.ref A.n) (A.push (.lst (acc.reverse ++ (us.filter P).map f)))
  | [], i, acc, n, hu, hn, hs => by
    obtain ⟨n, rfl⟩ : ∃ k, n = k + 1 := ⟨n - 1, by omega⟩
    rw [dLcL, nxS_end hu]
    simp
  | z :: us, i, acc, n, hu, hn, hs => by
    obtain ⟨n, rfl⟩ : ∃ k, n = k + 1 := ⟨n - 1, by omega⟩
    have hz : z ∈ zs := List.mem_of_mem_drop (i := i) (by rw [hu]; exact List.mem_cons_self)
    have hu1 := drop_next hu
    have hn1 : us.length < n := by simp at hn; omega
    rw [dLcL, nxS_at hu]
    dsimp only [CT.set]
    rw [h z hz, R.bdn_ok]
    cases hp : P z with
    | false =>
      rw [if_neg (by simp), lc_pure h h2 us (i + 1) acc n hu1 hn1 (by simp at hs; omega)]
      simp [hp]
    | true =>
      rw [if_pos rfl, h2 z hz hp, R.bdn_ok, if_pos (by simp at hs; omega), lc_pure h h2 us (i + 1) (f z :: acc) n hu1 hn1 (by simp at hs ⊢; omega)]
      simp [hp]
theorem lc_pure0 {zs : List Z} {k n : Nat} {tt : DT} {te : DE} {fr : Fr} {A : ZH} (P : Z → Bool) (f : Z → Z) (h : ∀ z ∈ zs, tt (fr.set k (.va z)) A = .ok (P z) A) (h2 : ∀ z ∈ zs, P z = true → te (fr.set k (.va z)) A = .ok (f z) A) (hn : zs.length < n) (hs : zs.length ≤ sizeLine) :
    dLcL (nxS zs) (.one k) tt te fr n 0 [] A = .ok (.ref A.n) (A.push (.lst ((zs.filter P).map f))) := by
  have e := lc_pure h h2 zs 0 [] n rfl hn (by simpa using hs)
  simpa using e
theorem big_gt {n : Nat} (h : n ≤ 100000000) : n < big := by show n < 1000000000; omega
end Zed

set_option maxHeartbeats 2000000
namespace Lw
open PySem PySem.Spec PyProof.Rows L2 Zed
def top (i : Nat) : Stmt := PySem.Challenge.pw_letterfolds_k81_identities_that_are_read.main.body.getD i (.Pass ⟨0, 0, 0, 0⟩)
abbrev s_Reader_init : Stmt := inClass (top 6) 0
abbrev N_Reader_init : List Str := ["self", "text"]
theorem sc_Reader_init : FnScope N_Reader_init ["self", "text"] (defScope s_Reader_init) := ⟨rfl, rfl, rfl, by decide +kernel, rfl, by decide +kernel, by decide +kernel⟩
abbrev s_Reader_sign : Stmt := inClass (top 6) 1
abbrev N_Reader_sign : List Str := ["self"]
theorem sc_Reader_sign : FnScope N_Reader_sign ["self"] (defScope s_Reader_sign) := ⟨rfl, rfl, rfl, by decide +kernel, rfl, by decide +kernel, by decide +kernel⟩
abbrev s_Reader_demand : Stmt := inClass (top 6) 2
abbrev N_Reader_demand : List Str := ["self", "sign"]
theorem sc_Reader_demand : FnScope N_Reader_demand ["self", "sign"] (defScope s_Reader_demand) := ⟨rfl, rfl, rfl, by decide +kernel, rfl, by decide +kernel, by decide +kernel⟩
abbrev s_Reader_is_factor : Stmt := inClass (top 6) 3
abbrev N_Reader_is_factor : List Str := ["self"]
theorem sc_Reader_is_factor : FnScope N_Reader_is_factor ["self"] (defScope s_Reader_is_factor) := ⟨rfl, rfl, rfl, by decide +kernel, rfl, by decide +kernel, by decide +kernel⟩
abbrev s_Reader_term : Stmt := inClass (top 6) 4
abbrev N_Reader_term : List Str := ["self", "found"]
theorem sc_Reader_term : FnScope N_Reader_term ["self"] (defScope s_Reader_term) := ⟨rfl, rfl, rfl, by decide +kernel, rfl, by decide +kernel, by decide +kernel⟩
abbrev s_Reader_power : Stmt := inClass (top 6) 5
abbrev N_Reader_power : List Str := ["self", "found"]
theorem sc_Reader_power : FnScope N_Reader_power ["self"] (defScope s_Reader_power) := ⟨rfl, rfl, rfl, by decide +kernel, rfl, by decide +kernel, by decide +kernel⟩
abbrev s_two_terms : Stmt := top 7
abbrev N_two_terms : List Str := ["text", "reader", "first", "second"]
theorem sc_two_terms : FnScope N_two_terms ["text"] (defScope s_two_terms) := ⟨rfl, rfl, rfl, by decide +kernel, rfl, by decide +kernel, by decide +kernel⟩
abbrev s_names_in : Stmt := top 8
abbrev N_names_in : List Str := ["first", "second", "name"]
theorem sc_names_in : FnScope N_names_in ["first", "second"] (defScope s_names_in) := ⟨rfl, rfl, rfl, by decide +kernel, rfl, by decide +kernel, by decide +kernel⟩
abbrev s_read_identity : Stmt := top 10
abbrev N_read_identity : List Str := ["text", "first", "second"]
theorem sc_read_identity : FnScope N_read_identity ["text"] (defScope s_read_identity) := ⟨rfl, rfl, rfl, by decide +kernel, rfl, by decide +kernel, by decide +kernel⟩
abbrev s_L_said : Stmt := top 18
abbrev N_L_said : List Str := ["_law_text", "e"]
theorem sc_L_said : FnScope N_L_said ["_law_text"] (defScope s_L_said) := ⟨rfl, rfl, rfl, by decide +kernel, rfl, by decide +kernel, by decide +kernel⟩
abbrev s_L_long_right : Stmt := top 21
abbrev N_L_long_right : List Str := ["_law_deep", "_law_odd", "_law_some", "_law_text", "_law_due_here"]
theorem sc_L_long_right : FnScope N_L_long_right [] (defScope s_L_long_right) := ⟨rfl, rfl, rfl, by decide +kernel, rfl, by decide +kernel, by decide +kernel⟩
abbrev s_L_source : Stmt := top 12
abbrev N_L_source : List Str := ["_law_cell"]
theorem sc_L_source : FnScope N_L_source ["_law_cell"] (defScope s_L_source) := ⟨rfl, rfl, rfl, by decide +kernel, rfl, by decide +kernel, by decide +kernel⟩
abbrev s_L_draw : Stmt := top 13
abbrev N_L_draw : List Str := ["_law_source_here", "_law_many", "_law_digit", "_law_mixed"]
theorem sc_L_draw : FnScope N_L_draw ["_law_source_here", "_law_many"] (defScope s_L_draw) := ⟨rfl, rfl, rfl, by decide +kernel, rfl, by decide +kernel, by decide +kernel⟩
abbrev s_L_pick : Stmt := top 14
abbrev N_L_pick : List Str := ["_law_source_here", "_law_some"]
theorem sc_L_pick : FnScope N_L_pick ["_law_source_here", "_law_some"] (defScope s_L_pick) := ⟨rfl, rfl, rfl, by decide +kernel, rfl, by decide +kernel, by decide +kernel⟩
abbrev s_L_term : Stmt := top 15
abbrev N_L_term : List Str := ["_law_source_here", "_law_deep", "_law_found", "_law_turn", "_law_one"]
theorem sc_L_term : FnScope N_L_term ["_law_source_here", "_law_deep"] (defScope s_L_term) := ⟨rfl, rfl, rfl, by decide +kernel, rfl, by decide +kernel, by decide +kernel⟩
abbrev s_L_is_open : Stmt := top 16
abbrev N_L_is_open : List Str := ["_law_mood", "_law_sign", "_law_depth", "_law_is_second"]
theorem sc_L_is_open : FnScope N_L_is_open ["_law_mood", "_law_sign", "_law_depth", "_law_is_second"] (defScope s_L_is_open) := ⟨rfl, rfl, rfl, by decide +kernel, rfl, by decide +kernel, by decide +kernel⟩
abbrev s_L_fault : Stmt := top 17
abbrev N_L_fault : List Str := ["_law_text", "_law_mood", "_law_depth", "_law_is_second", "_law_place", "_law_sign", "_law_is_whole"]
theorem sc_L_fault : FnScope N_L_fault ["_law_text"] (defScope s_L_fault) := ⟨rfl, rfl, rfl, by decide +kernel, rfl, by decide +kernel, by decide +kernel⟩
abbrev s_L_due : Stmt := top 19
abbrev N_L_due : List Str := ["_law_text", "_law_fault_here", "_law_name"]
theorem sc_L_due : FnScope N_L_due ["_law_text"] (defScope s_L_due) := ⟨rfl, rfl, rfl, by decide +kernel, rfl, by decide +kernel, by decide +kernel⟩
abbrev s_L_right : Stmt := top 20
abbrev N_L_right : List Str := ["_law_source_here", "_law_text", "_law_turn", "_law_at", "_law_sign", "_law_bent"]
theorem sc_L_right : FnScope N_L_right ["_law_source_here"] (defScope s_L_right) := ⟨rfl, rfl, rfl, by decide +kernel, rfl, by decide +kernel, by decide +kernel⟩
abbrev s_law : Stmt := top 22
abbrev N_law : List Str := ["_law_script", "_law_cell", "_law_source_here", "_law_turn"]
theorem sc_law : FnScope N_law ["_law_script"] (defScope s_law) := ⟨rfl, rfl, rfl, by decide +kernel, rfl, by decide +kernel, by decide +kernel⟩
abbrev s_NoTerm_init : Stmt := inClass (top 2) 0
abbrev N_NoTerm_init : List Str := ["self", "place"]
theorem sc_NoTerm_init : FnScope N_NoTerm_init ["self", "place"] (defScope s_NoTerm_init) := ⟨rfl, rfl, rfl, by decide +kernel, rfl, by decide +kernel, by decide +kernel⟩
structure AD where
  cFoldError : Addr
  cNoTerm : Addr
  cReader : Addr
  fReader_init : Addr
  fReader_sign : Addr
  fReader_demand : Addr
  fReader_is_factor : Addr
  fReader_term : Addr
  fReader_power : Addr
  ftwo_terms : Addr
  fnames_in : Addr
  fread_identity : Addr
  fL_said : Addr
  fL_long_right : Addr
  fL_source : Addr
  fL_draw : Addr
  fL_pick : Addr
  fL_term : Addr
  fL_is_open : Addr
  fL_fault : Addr
  fL_due : Addr
  fL_right : Addr
  flaw : Addr
  fNoTerm_init : Addr
def clsOf (a : AD) : Nat → Addr
  | 0 => a.cFoldError
  | 1 => a.cNoTerm
  | 2 => a.cReader
  | _ => 0
def fldOf : Nat → List Str
  | 0 => []
  | 1 => ["place"]
  | 2 => ["spot", "text"]
  | _ => []
@[reducible] def gg (K : PySem.W.Frag) (a : AD) : G := { K := K, cls := clsOf a, fld := fldOf, cod := fun _ => none }
structure Tx (K : PySem.W.Frag) (mg : Str → Option Value) (a : AD) : Prop where
  F_Reader_init : ∃ fd, Fun K "__init__" "Reader.__init__" s_Reader_init a.fReader_init fd
  mk_Reader : Mk K a.cReader a.fReader_init
  F_Reader_sign : ∃ fd, Fun K "sign" "Reader.sign" s_Reader_sign a.fReader_sign fd
  me_Reader_sign : Meth K a.cReader "sign" a.fReader_sign
  F_Reader_demand : ∃ fd, Fun K "demand" "Reader.demand" s_Reader_demand a.fReader_demand fd
  me_Reader_demand : Meth K a.cReader "demand" a.fReader_demand
  F_Reader_is_factor : ∃ fd, Fun K "is_factor" "Reader.is_factor" s_Reader_is_factor a.fReader_is_factor fd
  me_Reader_is_factor : Meth K a.cReader "is_factor" a.fReader_is_factor
  F_Reader_term : ∃ fd, Fun K "term" "Reader.term" s_Reader_term a.fReader_term fd
  me_Reader_term : Meth K a.cReader "term" a.fReader_term
  F_Reader_power : ∃ fd, Fun K "power" "Reader.power" s_Reader_power a.fReader_power fd
  me_Reader_power : Meth K a.cReader "power" a.fReader_power
  F_two_terms : ∃ fd, Fun K "two_terms" "two_terms" s_two_terms a.ftwo_terms fd
  m_two_terms : mg "two_terms" = some (.ref a.ftwo_terms)
  F_names_in : ∃ fd, Fun K "names_in" "names_in" s_names_in a.fnames_in fd
  m_names_in : mg "names_in" = some (.ref a.fnames_in)
  F_read_identity : ∃ fd, Fun K "read_identity" "read_identity" s_read_identity a.fread_identity fd
  m_read_identity : mg "read_identity" = some (.ref a.fread_identity)
  F_L_said : ∃ fd, Fun K "_law_said" "_law_said" s_L_said a.fL_said fd
  m_L_said : mg "_law_said" = some (.ref a.fL_said)
  F_L_long_right : ∃ fd, Fun K "_law_long_right" "_law_long_right" s_L_long_right a.fL_long_right fd
  m_L_long_right : mg "_law_long_right" = some (.ref a.fL_long_right)
  F_L_source : ∃ fd, Fun K "_law_source" "_law_source" s_L_source a.fL_source fd
  m_L_source : mg "_law_source" = some (.ref a.fL_source)
  F_L_draw : ∃ fd, Fun K "_law_draw" "_law_draw" s_L_draw a.fL_draw fd
  m_L_draw : mg "_law_draw" = some (.ref a.fL_draw)
  F_L_pick : ∃ fd, Fun K "_law_pick" "_law_pick" s_L_pick a.fL_pick fd
  m_L_pick : mg "_law_pick" = some (.ref a.fL_pick)
  F_L_term : ∃ fd, Fun K "_law_term" "_law_term" s_L_term a.fL_term fd
  m_L_term : mg "_law_term" = some (.ref a.fL_term)
  F_L_is_open : ∃ fd, Fun K "_law_is_open" "_law_is_open" s_L_is_open a.fL_is_open fd
  m_L_is_open : mg "_law_is_open" = some (.ref a.fL_is_open)
  F_L_fault : ∃ fd, Fun K "_law_fault" "_law_fault" s_L_fault a.fL_fault fd
  m_L_fault : mg "_law_fault" = some (.ref a.fL_fault)
  F_L_due : ∃ fd, Fun K "_law_due" "_law_due" s_L_due a.fL_due fd
  m_L_due : mg "_law_due" = some (.ref a.fL_due)
  F_L_right : ∃ fd, Fun K "_law_right" "_law_right" s_L_right a.fL_right fd
  m_L_right : mg "_law_right" = some (.ref a.fL_right)
  F_law : ∃ fd, Fun K "law" "law" s_law a.flaw fd
  m_law : mg "law" = some (.ref a.flaw)
  m_FoldError : mg "FoldError" = some (.ref a.cFoldError)
  m_NoTerm : mg "NoTerm" = some (.ref a.cNoTerm)
  m_Reader : mg "Reader" = some (.ref a.cReader)
  cl_Reader : Cls K a.cReader
  na_Reader : NaL K a.cReader ["spot", "text"]
  ox_NoTerm : OexC K a.cNoTerm
  xc_NoTerm : XfC K a.cNoTerm
  na_NoTerm : NaL K a.cNoTerm ["place"]
  in_NoTerm : PySem.W.findIn K (.ref a.cNoTerm) "__init__" = some (some (.ref a.fNoTerm_init)) ∧ PySem.W.typeIn K (.ref a.fNoTerm_init) = some (.type "function")
  F_NoTerm_init : ∃ fd, Fun K "__init__" "NoTerm.__init__" s_NoTerm_init a.fNoTerm_init fd
  x_NoTerm_FoldError : PySem.W.exmOne K (.ref a.cNoTerm) (.ref a.cFoldError) = some true
  x_NoTerm_NoTerm : PySem.W.exmOne K (.ref a.cNoTerm) (.ref a.cNoTerm) = some true
  g_MOST_TEXT : ∃ t, mg "MOST_TEXT" = some (.int 200 t)
  g_NAMES : ∃ t, mg "NAMES" = some (.str "wxyz" t)
  n_abs : mg "abs" = none
  n_enumerate : mg "enumerate" = none
  n_int : mg "int" = none
  n_isinstance : mg "isinstance" = none
  n_len : mg "len" = none
  n_range : mg "range" = none
  n_str : mg "str" = none
  n_tuple : mg "tuple" = none
section
variable {P : Program} {w : World} {K : PySem.W.Frag} {mg : Str → Option Value} {base : Heap} {a : AD}
theorem cz_Reader (T : Tx K mg a) : ClZ (gg K a) 2 := ⟨T.cl_Reader, (show (fldOf 2).length < 900 from by decide +kernel), (show (fldOf 2).Nodup from by decide +kernel), T.na_Reader.all⟩
abbrev ft_spot : List (Nat × Nat) := [(2, 0)]
theorem fp_spot (T : Tx K mg a) : FldPack (gg K a) "spot" ft_spot := (fpack_cons (cz_Reader T) rfl fpack_nil)
abbrev ft_text : List (Nat × Nat) := [(2, 1)]
theorem fp_text (T : Tx K mg a) : FldPack (gg K a) "text" ft_text := (fpack_cons (cz_Reader T) rfl fpack_nil)
theorem xf_NoTerm (T : Tx K mg a) : XfZ (gg K a) 1 := ⟨T.xc_NoTerm, T.na_NoTerm.all⟩
theorem ex_NoTerm (T : Tx K mg a) : ExZ P w mg base (gg K a) 1 "NoTerm" := by
  obtain ⟨fd, fu⟩ := T.F_NoTerm_init
  refine ⟨T.ox_NoTerm, xf_NoTerm T, T.m_NoTerm, (show (fldOf 1).Nodup from by decide +kernel), _, fd, ["self", "place"], T.in_NoTerm.1, T.in_NoTerm.2, fu.binds (ps := ["self", "place"]) fun _ _ _ _ _ _ us hl => match us, hl with | [_, _], _ => rfl, ?_⟩
  exact fu.ok sc_NoTerm_init (fun vs H Q E h => xi_len h) fun cdv A outer s H vs Q E hr h => ⟨_, pss_one (ps_ost (pv 0) (pv 1)), xi_run1 T.ox_NoTerm T.na_NoTerm.1 h⟩
/-- Reader.__init__ -/
def b_Reader_init : DS :=
  (dAsg (dTup (dCons (dVar 1) (dCons (dC (.int 0)) dNil))) (gTu 2 (gCo (gFl ft_text (dVar 0)) (gCo (gFl ft_spot (dVar 0)) gNo))))
def F_Reader_init : Fn := runD 2 b_Reader_init
theorem mk_Reader (T : Tx K mg a) : MakZ P w mg base (gg K a) 2 "Reader" 2 2 [] F_Reader_init := by
  obtain ⟨fd, fu⟩ := T.F_Reader_init
  exact mak_mk (cz_Reader T) T.m_Reader T.mk_Reader rfl (fu.binds (ps := ["self", "text"]) fun _ _ _ _ _ _ us hl => match us, hl with | [_, _], _ => rfl) (fnz_defT fu sc_Reader_init fun cdv A outer s H E room tk hp hu =>
    (ss_one (s_asg (e_tup (a_cons (e_var 1) (a_cons e_int a_nil))) (g_tup rfl (g_cons (g_fld (fp_text T) (e_var 0)) (g_cons (g_fld (fp_spot T) (e_var 0)) g_nil))) (DGok.tup (DGsok.cons DGok.fld (DGsok.cons DGok.fld DGsok.nil))))))
/-- Reader.sign -/
def b_Reader_sign : DS :=
  (dRet (dSl (dFld ft_text (dVar 0)) (dPt (dFld ft_spot (dVar 0))) (dPt (dBin addZ (dFld ft_spot (dVar 0)) (dC (.int 1))))))
def F_Reader_sign : Fn := runD 1 b_Reader_sign
theorem c_Reader_sign (T : Tx K mg a) : MetZ P w mg base (gg K a) 2 2 "sign" 1 [] F_Reader_sign := by
  obtain ⟨fd, fu⟩ := T.F_Reader_sign
  exact met_mk (x := "sign") (qual := "Reader.sign") (st := s_Reader_sign) (cz_Reader T) (show ("sign" : Str) ∉ fldOf 2 from by decide +kernel) T.me_Reader_sign rfl (fu.binds (ps := ["self"]) fun _ _ _ _ _ _ us hl => match us, hl with | [_], _ => rfl) (fnz_defT fu sc_Reader_sign fun cdv A outer s H E room tk hp hu =>
    (ss_one (s_ret (e_sl (e_fld (fp_text T) (e_var 0)) (p_some (e_fld (fp_spot T) (e_var 0))) (p_some (e_op o_add z_add (e_fld (fp_spot T) (e_var 0)) e_int))))))
/-- Reader.demand -/
def b_Reader_demand : DS :=
  (dSeq (dIte (dTst (dBin neZ (dMeth [(2, F_Reader_sign)] (dVar 0) dNil []) (dVar 1))) (dRaise 1 1 (dCons (dFld ft_spot (dVar 0)) dNil)) dNop) (dSetFld ft_spot (dVar 0) (dBin addZ (dFld ft_spot (dVar 0)) (dC (.int 1)))))
def F_Reader_demand : Fn := runD 2 b_Reader_demand
theorem c_Reader_demand (T : Tx K mg a) : MetZ P w mg base (gg K a) 3 2 "demand" 2 [] F_Reader_demand := by
  obtain ⟨fd, fu⟩ := T.F_Reader_demand
  exact met_mk (x := "demand") (qual := "Reader.demand") (st := s_Reader_demand) (cz_Reader T) (show ("demand" : Str) ∉ fldOf 2 from by decide +kernel) T.me_Reader_demand rfl (fu.binds (ps := ["self", "sign"]) fun _ _ _ _ _ _ us hl => match us, hl with | [_, _], _ => rfl) (fnz_defT fu sc_Reader_demand fun cdv A outer s H E room tk hp hu =>
    (ss_cons (s_if (t_cmp (o_ne hu) z_ne (e_meth0 (pack_cons (c_Reader_sign T) pack_nil) room tk (e_var 0) (hk := by omega)) (e_var 1) rfl) (ss_one (s_raise (ex_NoTerm T) room tk (a_cons (e_fld (fp_spot T) (e_var 0)) a_nil) rfl)) ss_nil)
      (ss_one (s_fld (fp_spot T) (e_var 0) (e_op o_add z_add (e_fld (fp_spot T) (e_var 0)) e_int)))))
/-- Reader.is_factor -/
def b_Reader_is_factor : DS :=
  (dRet (dAndV (dBin neZ (dMeth [(2, F_Reader_sign)] (dVar 0) dNil []) (dC (.str ""))) (dBin inV' (dMeth [(2, F_Reader_sign)] (dVar 0) dNil []) (dBin addZ (dC (.str "wxyz")) (dC (.str "("))))))
def F_Reader_is_factor : Fn := runD 1 b_Reader_is_factor
theorem c_Reader_is_factor (T : Tx K mg a) : MetZ P w mg base (gg K a) 3 2 "is_factor" 1 [] F_Reader_is_factor := by
  obtain ⟨fd, fu⟩ := T.F_Reader_is_factor
  exact met_mk (x := "is_factor") (qual := "Reader.is_factor") (st := s_Reader_is_factor) (cz_Reader T) (show ("is_factor" : Str) ∉ fldOf 2 from by decide +kernel) T.me_Reader_is_factor rfl (fu.binds (ps := ["self"]) fun _ _ _ _ _ _ us hl => match us, hl with | [_], _ => rfl) (fnz_defT fu sc_Reader_is_factor fun cdv A outer s H E room tk hp hu =>
    (ss_one (s_ret (v_and rfl (e_cmp (o_ne hu) z_ne (e_meth0 (pack_cons (c_Reader_sign T) pack_nil) room tk (e_var 0) (hk := by omega)) e_str rfl) (v_one (e_cmp (o_in hu) z_in (e_meth0 (pack_cons (c_Reader_sign T) pack_nil) room tk (e_var 0) (hk := by omega)) (e_op o_add z_add (e_glob rfl (gl_str T.g_NAMES)) e_str) rfl))))))
/-- Reader.term -/
def b_Reader_term (f_Reader_term : Fn) (f_Reader_power : Fn) : DS :=
  (dSeq (dIte (dTst (dBin eqZ (dMeth [(2, F_Reader_sign)] (dVar 0) dNil []) (dC (.str "1")))) (dSeq (dSetFld ft_spot (dVar 0) (dBin addZ (dFld ft_spot (dVar 0)) (dC (.int 1)))) (dRet (dLst (dCons (dC (.str "one")) dNil)))) dNop) (dSeq (dIte (dNot (dTru (dMeth [(2, F_Reader_is_factor)] (dVar 0) dNil []))) (dRaise 1 1 (dCons (dFld ft_spot (dVar 0)) dNil)) dNop) (dSeq (dSet 1 (dMeth [(2, f_Reader_power)] (dVar 0) dNil [])) (dSeq (dWhl (dTru (dMeth [(2, F_Reader_is_factor)] (dVar 0) dNil [])) (dSet 1 (dBin addZ (dBin addZ (dVar 1) (dMeth [(2, f_Reader_power)] (dVar 0) dNil [])) (dLst (dCons (dC (.str "times")) dNil)))) big) (dRet (dVar 1))))))
/-- Reader.power -/
def b_Reader_power (f_Reader_term : Fn) (f_Reader_power : Fn) : DS :=
  (dSeq (dIte (dTst (dBin eqZ (dMeth [(2, F_Reader_sign)] (dVar 0) dNil []) (dC (.str "(")))) (dSeq (dSetFld ft_spot (dVar 0) (dBin addZ (dFld ft_spot (dVar 0)) (dC (.int 1)))) (dSeq (dSet 1 (dMeth [(2, f_Reader_term)] (dVar 0) dNil [])) (dExp (dMeth [(2, F_Reader_demand)] (dVar 0) (dCons (dC (.str ")")) dNil) [])))) (dSeq (dSet 1 (dLst (dCons (dMeth [(2, F_Reader_sign)] (dVar 0) dNil []) dNil))) (dSetFld ft_spot (dVar 0) (dBin addZ (dFld ft_spot (dVar 0)) (dC (.int 1)))))) (dSeq (dWhl (dAnd (dTst (dBin neZ (dMeth [(2, F_Reader_sign)] (dVar 0) dNil []) (dC (.str "")))) (dTst (dBin inV' (dMeth [(2, F_Reader_sign)] (dVar 0) dNil []) (dC (.str "^~"))))) (dSeq (dExp (dBM isL appZ (dVar 1) (dCons (dIf (dTst (dBin eqZ (dMeth [(2, F_Reader_sign)] (dVar 0) dNil []) (dC (.str "^")))) (dC (.str "omega")) (dC (.str "less"))) dNil))) (dSetFld ft_spot (dVar 0) (dBin addZ (dFld ft_spot (dVar 0)) (dC (.int 1))))) big) (dRet (dVar 1))))
def R_Reader_term : Nat → Fn × Fn
  | 0 => (fno, fno)
  | n + 1 => (runD 2 (b_Reader_term ((R_Reader_term n).1) ((R_Reader_term n).2)), runD 2 (b_Reader_power ((R_Reader_term n).1) ((R_Reader_term n).2)))
def F_Reader_term (n : Nat) : Fn := (R_Reader_term n).1
def F_Reader_power (n : Nat) : Fn := (R_Reader_term n).2
theorem F_Reader_term_s (n : Nat) : F_Reader_term (n + 1) = runD 2 (b_Reader_term (F_Reader_term n) (F_Reader_power n)) := rfl
theorem F_Reader_power_s (n : Nat) : F_Reader_power (n + 1) = runD 2 (b_Reader_power (F_Reader_term n) (F_Reader_power n)) := rfl
theorem k_Reader_term (T : Tx K mg a) {j : Nat} {f_Reader_term : Fn} {f_Reader_power : Fn} (h_Reader_term : MetZ P w mg base (gg K a) j 2 "term" 1 [] f_Reader_term) (h_Reader_power : MetZ P w mg base (gg K a) j 2 "power" 1 [] f_Reader_power) (hj : 3 ≤ j) : MetZ P w mg base (gg K a) (j + 1) 2 "term" 1 [] (runD 2 (b_Reader_term f_Reader_term f_Reader_power)) := by
  obtain ⟨fd, fu⟩ := T.F_Reader_term
  exact met_mk (x := "term") (qual := "Reader.term") (st := s_Reader_term) (cz_Reader T) (show ("term" : Str) ∉ fldOf 2 from by decide +kernel) T.me_Reader_term rfl (fu.binds (ps := ["self"]) fun _ _ _ _ _ _ us hl => match us, hl with | [_], _ => rfl) (fnz_defT fu sc_Reader_term fun cdv A outer s H E room tk hp hu =>
    (ss_cons (s_if (t_cmp (o_eq hu) z_eq (e_meth0 (pack_cons (c_Reader_sign T) pack_nil) room tk (e_var 0) (hk := by omega)) e_str rfl) (ss_cons (s_fld (fp_spot T) (e_var 0) (e_op o_add z_add (e_fld (fp_spot T) (e_var 0)) e_int))
      (ss_one (s_ret (e_lst (a_cons e_str a_nil))))) ss_nil)
      (ss_cons (s_if (t_not (t_tru rfl (e_meth0 (pack_cons (c_Reader_is_factor T) pack_nil) room tk (e_var 0) (hk := by omega)))) (ss_one (s_raise (ex_NoTerm T) room tk (a_cons (e_fld (fp_spot T) (e_var 0)) a_nil) rfl)) ss_nil)
      (ss_cons (s_set 1 sc_Reader_term.nd (e_meth0 (pack_cons h_Reader_power pack_nil) room tk (e_var 0) (hk := by omega)))
      (ss_cons (s_while big hp (t_tru rfl (e_meth0 (pack_cons (c_Reader_is_factor T) pack_nil) room tk (e_var 0) (hk := by omega))) (ss_one (s_set 1 sc_Reader_term.nd (e_op o_add z_add (e_op o_add z_add (e_var 1) (e_meth0 (pack_cons h_Reader_power pack_nil) room tk (e_var 0) (hk := by omega))) (e_lst (a_cons e_str a_nil))))))
      (ss_one (s_ret (e_var 1))))))))
theorem k_Reader_power (T : Tx K mg a) {j : Nat} {f_Reader_term : Fn} {f_Reader_power : Fn} (h_Reader_term : MetZ P w mg base (gg K a) j 2 "term" 1 [] f_Reader_term) (h_Reader_power : MetZ P w mg base (gg K a) j 2 "power" 1 [] f_Reader_power) (hj : 3 ≤ j) : MetZ P w mg base (gg K a) (j + 1) 2 "power" 1 [] (runD 2 (b_Reader_power f_Reader_term f_Reader_power)) := by
  obtain ⟨fd, fu⟩ := T.F_Reader_power
  exact met_mk (x := "power") (qual := "Reader.power") (st := s_Reader_power) (cz_Reader T) (show ("power" : Str) ∉ fldOf 2 from by decide +kernel) T.me_Reader_power rfl (fu.binds (ps := ["self"]) fun _ _ _ _ _ _ us hl => match us, hl with | [_], _ => rfl) (fnz_defT fu sc_Reader_power fun cdv A outer s H E room tk hp hu =>
    (ss_cons (s_if (t_cmp (o_eq hu) z_eq (e_meth0 (pack_cons (c_Reader_sign T) pack_nil) room tk (e_var 0) (hk := by omega)) e_str rfl) (ss_cons (s_fld (fp_spot T) (e_var 0) (e_op o_add z_add (e_fld (fp_spot T) (e_var 0)) e_int))
      (ss_cons (s_set 1 sc_Reader_power.nd (e_meth0 (pack_cons h_Reader_term pack_nil) room tk (e_var 0) (hk := by omega)))
      (ss_one (s_exp (e_meth (pack_cons (c_Reader_demand T) pack_nil) room tk (e_var 0) (a_cons e_str a_nil) (hk := by omega) (hc := (cnt_cons cnt_nil))))))) (ss_cons (s_set 1 sc_Reader_power.nd (e_lst (a_cons (e_meth0 (pack_cons (c_Reader_sign T) pack_nil) room tk (e_var 0) (hk := by omega)) a_nil)))
      (ss_one (s_fld (fp_spot T) (e_var 0) (e_op o_add z_add (e_fld (fp_spot T) (e_var 0)) e_int)))))
      (ss_cons (s_while big hp (SW.st (w_and (t_cmp (o_ne hu) z_ne (e_meth0 (pack_cons (c_Reader_sign T) pack_nil) room tk (e_var 0) (hk := by omega)) e_str rfl) (w_and1 (t_cmp (o_in hu) z_in (e_meth0 (pack_cons (c_Reader_sign T) pack_nil) room tk (e_var 0) (hk := by omega)) e_str rfl)))) (ss_cons (s_exp (e_bm F.plainAttrs_list F.slot_list_append F.type_list_append mt_append ty_L z_app (e_var 1) (a_cons (e_if (t_cmp (o_eq hu) z_eq (e_meth0 (pack_cons (c_Reader_sign T) pack_nil) room tk (e_var 0) (hk := by omega)) e_str rfl) e_str e_str) a_nil)))
      (ss_one (s_fld (fp_spot T) (e_var 0) (e_op o_add z_add (e_fld (fp_spot T) (e_var 0)) e_int)))))
      (ss_one (s_ret (e_var 1))))))
theorem r_Reader_term (T : Tx K mg a) : ∀ n : Nat, (MetZ P w mg base (gg K a) (3 + n) 2 "term" 1 [] (F_Reader_term n)) ∧ (MetZ P w mg base (gg K a) (3 + n) 2 "power" 1 [] (F_Reader_power n))
  | 0 => by
    obtain ⟨fd_Reader_term, fu_Reader_term⟩ := T.F_Reader_term
    obtain ⟨fd_Reader_power, fu_Reader_power⟩ := T.F_Reader_power
    exact ⟨met_mk (x := "term") (qual := "Reader.term") (st := s_Reader_term) (cz_Reader T) (show ("term" : Str) ∉ fldOf 2 from by decide +kernel) T.me_Reader_term rfl (fu_Reader_term.binds (ps := ["self"]) fun _ _ _ _ _ _ us hl => match us, hl with | [_], _ => rfl) (fnz_no rfl), met_mk (x := "power") (qual := "Reader.power") (st := s_Reader_power) (cz_Reader T) (show ("power" : Str) ∉ fldOf 2 from by decide +kernel) T.me_Reader_power rfl (fu_Reader_power.binds (ps := ["self"]) fun _ _ _ _ _ _ us hl => match us, hl with | [_], _ => rfl) (fnz_no rfl)⟩
  | n + 1 => by
    obtain ⟨h0, h1⟩ := r_Reader_term T n
    exact ⟨k_Reader_term T h0 h1 (Nat.le_add_right _ _), k_Reader_power T h0 h1 (Nat.le_add_right _ _)⟩
theorem c_Reader_term (T : Tx K mg a) : MetZ P w mg base (gg K a) 603 2 "term" 1 [] (F_Reader_term 600) := (r_Reader_term T 600).1
theorem c_Reader_power (T : Tx K mg a) : MetZ P w mg base (gg K a) 603 2 "power" 1 [] (F_Reader_power 600) := (r_Reader_term T 600).2
/-- two_terms -/
def b_two_terms : DS :=
  (dSeq (dIte (dOr (dNot (dTru (dIsi .str (dVar 0)))) (dTst (dBin gtZ (dCB lenZ (dCons (dVar 0) dNil)) (dC (.int 200))))) (dRaise 1 1 (dCons (dUn negZ (dC (.int 1))) dNil)) dNop) (dSeq (dSet 1 (dMake 2 F_Reader_init [] (dCons (dVar 0) dNil))) (dSeq (dSet 2 (dMeth [(2, (F_Reader_term 600))] (dVar 1) dNil [])) (dSeq (dExp (dMeth [(2, F_Reader_demand)] (dVar 1) (dCons (dC (.str "=")) dNil) [])) (dSeq (dSet 3 (dMeth [(2, (F_Reader_term 600))] (dVar 1) dNil [])) (dSeq (dIte (dTst (dBin ltZ (dFld ft_spot (dVar 1)) (dCB lenZ (dCons (dVar 0) dNil)))) (dRaise 1 1 (dCons (dFld ft_spot (dVar 1)) dNil)) dNop) (dRet (dTup (dCons (dVar 2) (dCons (dVar 3) dNil))))))))))
def F_two_terms : Fn := runD 4 b_two_terms
theorem c_two_terms (T : Tx K mg a) : CalZ P w mg base (gg K a) 604 "two_terms" 1 [] F_two_terms := by
  obtain ⟨fd, fu⟩ := T.F_two_terms
  exact cal_mk T.m_two_terms fu rfl (fu.binds (ps := ["text"]) fun _ _ _ _ _ _ us hl => match us, hl with | [_], _ => rfl) (fnz_defT fu sc_two_terms fun cdv A outer s H E room tk hp hu =>
    (ss_cons (s_if (SW.st (w_or (t_not (t_tru rfl (e_isi (T := .str) (e_var 0) T.n_isinstance T.n_str (by decide +kernel)))) (w_or1 (t_cmp op_gt z_gt (e_cb c_len z_len T.n_len (by decide +kernel) (a_cons (e_var 0) a_nil)) (e_glob rfl (gl_int T.g_MOST_TEXT)) rfl)))) (ss_one (s_raise (ex_NoTerm T) room tk (a_cons (e_un un_neg z_neg e_int) a_nil) rfl)) ss_nil)
      (ss_cons (s_set 1 sc_two_terms.nd (e_make (mk_Reader T) room tk (a_cons (e_var 0) a_nil) (hk := by omega) (hc := (cnt_cons cnt_nil))))
      (ss_cons (s_set 2 sc_two_terms.nd (e_meth0 (pack_cons (c_Reader_term T) pack_nil) room tk (e_var 1) (hk := by omega)))
      (ss_cons (s_exp (e_meth (pack_cons (c_Reader_demand T) pack_nil) room tk (e_var 1) (a_cons e_str a_nil) (hk := by omega) (hc := (cnt_cons cnt_nil))))
      (ss_cons (s_set 3 sc_two_terms.nd (e_meth0 (pack_cons (c_Reader_term T) pack_nil) room tk (e_var 1) (hk := by omega)))
      (ss_cons (s_if (t_cmp op_lt z_lt (e_fld (fp_spot T) (e_var 1)) (e_cb c_len z_len T.n_len (by decide +kernel) (a_cons (e_var 0) a_nil)) rfl) (ss_one (s_raise (ex_NoTerm T) room tk (a_cons (e_fld (fp_spot T) (e_var 1)) a_nil) rfl)) ss_nil)
      (ss_one (s_ret (e_tup (a_cons (e_var 2) (a_cons (e_var 3) a_nil))))))))))))
/-- names_in -/
def b_names_in : DS :=
  (dRet (dCB tupfZ (dCons (dLc big (iVal (dC (.str "wxyz"))) (.one 2) (dOr (dTst (dBin inV' (dVar 2) (dVar 0))) (dTst (dBin inV' (dVar 2) (dVar 1)))) (dVar 2) [2]) dNil)))
def F_names_in : Fn := runD 3 b_names_in
theorem c_names_in (T : Tx K mg a) : CalZ P w mg base (gg K a) 2 "names_in" 2 [] F_names_in := by
  obtain ⟨fd, fu⟩ := T.F_names_in
  exact cal_mk T.m_names_in fu rfl (fu.binds (ps := ["first", "second"]) fun _ _ _ _ _ _ us hl => match us, hl with | [_, _], _ => rfl) (fnz_defT fu sc_names_in fun cdv A outer s H E room tk hp hu =>
    (ss_one (s_ret (e_ct c_tup z_tup T.n_tuple (by decide +kernel) (a_cons (e_lc big (own := [("name", 2)]) rfl sc_names_in.nd (i_val (e_glob rfl (gl_str T.g_NAMES))) (blkOk_by (N := N_names_in) (sc := defScope s_names_in) (by decide +kernel)) (fun _ _ _ _ _ => pg_name (i := 2) sc_names_in.nd rfl (Or.inl rfl)) (fun _ _ _ _ _ => (ts_one (SW.st (w_or (t_cmp (o_in hu) z_in (e_var 2) (e_var 0) rfl) (w_or1 (t_cmp (o_in hu) z_in (e_var 2) (e_var 1) rfl)))))) (fun _ _ _ _ _ => (e_var 2))) a_nil)))))
/-- read_identity -/
def b_read_identity : DS :=
  (dSeq (dAsg (dCall F_two_terms [] (dCons (dVar 0) dNil)) (gTu 2 (gCo (gNm 1) (gCo (gNm 2) gNo)))) (dRet (dCall F_names_in [] (dCons (dVar 1) (dCons (dVar 2) dNil)))))
def F_read_identity : Fn := runD 3 b_read_identity
theorem c_read_identity (T : Tx K mg a) : CalZ P w mg base (gg K a) 605 "read_identity" 1 [] F_read_identity := by
  obtain ⟨fd, fu⟩ := T.F_read_identity
  exact cal_mk T.m_read_identity fu rfl (fu.binds (ps := ["text"]) fun _ _ _ _ _ _ us hl => match us, hl with | [_], _ => rfl) (fnz_defT fu sc_read_identity fun cdv A outer s H E room tk hp hu =>
    (ss_cons (s_asg (e_call (c_two_terms T) room tk (a_cons (e_var 0) a_nil) (hk := by omega) (hc := (cnt_cons cnt_nil))) (g_tup rfl (g_cons (g_name 1 sc_read_identity.nd) (g_cons (g_name 2 sc_read_identity.nd) g_nil))) (DGok.tup (DGsok.cons (DGok.name 1) (DGsok.cons (DGok.name 2) DGsok.nil))))
      (ss_one (s_ret (e_call (c_names_in T) room tk (a_cons (e_var 1) (a_cons (e_var 2) a_nil)) (hk := by omega) (hc := (cnt_cons (cnt_cons cnt_nil))))))))
/-- _law_said -/
def b_L_said : DS :=
  (dTry (dRet (dCall F_read_identity [] (dCons (dVar 0) dNil))) [((fun k => List.lookup k [(1, true)]), (some 1), (dRet (dXf [(1, 0)] 1))), ((fun k => List.lookup k [(1, true)]), none, (dRet (dC (.str "other"))))])
def F_L_said : Fn := runD 2 b_L_said
theorem c_L_said (T : Tx K mg a) : CalZ P w mg base (gg K a) 606 "_law_said" 1 [] F_L_said := by
  obtain ⟨fd, fu⟩ := T.F_L_said
  exact cal_mk T.m_L_said fu rfl (fu.binds (ps := ["_law_text"]) fun _ _ _ _ _ _ us hl => match us, hl with | [_], _ => rfl) (fnz_defT fu sc_L_said fun cdv A outer s H E room tk hp hu =>
    (ss_one (s_try rfl rfl sc_L_said.nd tk rfl (fun W1 pn xe tk1 hp1 => (ss_one (s_ret (e_call (c_read_identity T) room tk1 (a_cons (e_var 0) a_nil) (hk := by omega) (hc := (cnt_cons cnt_nil)))))) (HdD.named (c := .ref a.cNoTerm) ⟨rfl, by decide, .inl T.m_NoTerm⟩ (exm_tab (tb := [(1, true)]) (exm_cons T.x_NoTerm_NoTerm exm_nil)) rfl rfl (fun ax oe cls d pn hz hf => (ss_one (s_ret (e_xf (i := 1) (xpack_cons (xf_NoTerm T) rfl xpack_nil) hz hf)))) (HdD.bare (c := .ref a.cFoldError) ⟨rfl, by decide, .inl T.m_FoldError⟩ (exm_tab (tb := [(1, true)]) (exm_cons T.x_NoTerm_FoldError exm_nil)) (fun ax oe cls d pn hz hf => (ss_one (s_ret e_str))) HdD.nil)))))
/-- _law_long_right -/
def b_L_long_right : DS :=
  (dSeq (dSet 0 (dBin addZ (dBin addZ (dBin addZ (dBin mulZ (dC (.str "(")) (dC (.int 98))) (dC (.str "x"))) (dBin mulZ (dC (.str ")")) (dC (.int 98)))) (dC (.str "=1")))) (dSeq (dIte (dOr (dTst (dBin neZ (dCall F_L_said [] (dCons (dVar 0) dNil)) (dTup (dCons (dC (.str "x")) dNil)))) (dOr (dTst (dBin neZ (dCall F_L_said [] (dCons (dBin addZ (dC (.str "1=")) (dBin mulZ (dC (.str "x")) (dC (.int 198)))) dNil)) (dTup (dCons (dC (.str "x")) dNil)))) (dTst (dBin neZ (dCall F_L_said [] (dCons (dBin addZ (dC (.str "1=")) (dBin mulZ (dC (.str "x")) (dC (.int 199)))) dNil)) (dUn negZ (dC (.int 1))))))) (dRet (dC (.bl false))) dNop) (dSeq (dIte (dOr (dTst (dBin neZ (dCall F_L_said [] (dCons (dBin mulZ (dC (.str "(")) (dC (.int 200))) dNil)) (dC (.int 200)))) (dOr (dTst (dBin neZ (dCall F_L_said [] (dCons (dBin mulZ (dC (.str "(")) (dC (.int 201))) dNil)) (dUn negZ (dC (.int 1))))) (dTst (dBin neZ (dCall F_L_said [] (dCons (dBin addZ (dC (.str "1=z")) (dBin mulZ (dC (.str "^")) (dC (.int 197)))) dNil)) (dTup (dCons (dC (.str "z")) dNil)))))) (dRet (dC (.bl false))) dNop) (dSeq (dFor big (iVal (dTup (dCons (dC .non) (dCons (dC (.int 5)) (dCons (dLst (dCons (dC (.str "x=x")) dNil)) (dCons (dTup (dCons (dC (.str "x")) (dCons (dC (.str "x")) dNil))) (dCons (dC (.bl true)) (dCons dDict0 (dCons (dLst (dCons (dC (.int 1)) dNil)) dNil))))))))) (gNm 1) (dIte (dTst (dBin neZ (dCall F_L_said [] (dCons (dVar 1) dNil)) (dUn negZ (dC (.int 1))))) (dRet (dC (.bl false))) dNop)) (dSeq (dSet 2 (dLst (dCons (dTup (dCons (dC (.str "1=1")) (dCons (dTup dNil) dNil))) (dCons (dTup (dCons (dC (.str "(1)^=(1)~")) (dCons (dTup dNil) dNil))) (dCons (dTup (dCons (dC (.str "zw=xy")) (dCons (dTup (dCons (dC (.str "w")) (dCons (dC (.str "x")) (dCons (dC (.str "y")) (dCons (dC (.str "z")) dNil))))) dNil))) (dCons (dTup (dCons (dC (.str "")) (dCons (dC (.int 0)) dNil))) (dCons (dTup (dCons (dC (.str "=")) (dCons (dC (.int 0)) dNil))) (dCons (dTup (dCons (dC (.str "x=")) (dCons (dC (.int 2)) dNil))) (dCons (dTup (dCons (dC (.str "x")) (dCons (dC (.int 1)) dNil))) dNil))))))))) (dSeq (dSet 2 (dBin addZ (dVar 2) (dLst (dCons (dTup (dCons (dC (.str "1x=x")) (dCons (dC (.int 1)) dNil))) (dCons (dTup (dCons (dC (.str "x1=x")) (dCons (dC (.int 1)) dNil))) (dCons (dTup (dCons (dC (.str "x==x")) (dCons (dC (.int 2)) dNil))) (dCons (dTup (dCons (dC (.str "x=x=x")) (dCons (dC (.int 3)) dNil))) (dCons (dTup (dCons (dC (.str "()=1")) (dCons (dC (.int 1)) dNil))) (dCons (dTup (dCons (dC (.str "^x=x")) (dCons (dC (.int 0)) dNil))) (dCons (dTup (dCons (dC (.str "x=1^")) (dCons (dC (.int 3)) dNil))) dNil)))))))))) (dSeq (dSet 2 (dBin addZ (dVar 2) (dLst (dCons (dTup (dCons (dC (.str "(x=x)")) (dCons (dC (.int 2)) dNil))) (dCons (dTup (dCons (dC (.str "x)=x")) (dCons (dC (.int 1)) dNil))) (dCons (dTup (dCons (dC (.str "(x=x")) (dCons (dC (.int 2)) dNil))) (dCons (dTup (dCons (dC (.str "x = x")) (dCons (dC (.int 1)) dNil))) (dCons (dTup (dCons (dC (.str "x=x ")) (dCons (dC (.int 3)) dNil))) (dCons (dTup (dCons (dC (.str "(1x)=x")) (dCons (dC (.int 2)) dNil))) dNil))))))))) (dRet (dBin eqZ (dLc big (iVal (dVar 2)) (.many [3, 4]) (dTst (dBin neZ (dCall F_L_said [] (dCons (dVar 3) dNil)) (dVar 4))) (dVar 3) [3, 4]) (dLst dNil))))))))))
def F_L_long_right : Fn := runD 5 b_L_long_right
theorem c_L_long_right (T : Tx K mg a) : CalZ P w mg base (gg K a) 607 "_law_long_right" 0 [] F_L_long_right := by
  obtain ⟨fd, fu⟩ := T.F_L_long_right
  exact cal_mk T.m_L_long_right fu rfl (fu.binds (ps := []) fun _ _ _ _ _ _ us hl => match us, hl with | [], _ => rfl) (fnz_defT fu sc_L_long_right fun cdv A outer s H E room tk hp hu =>
    (ss_cons (s_set 0 sc_L_long_right.nd (e_op o_add z_add (e_op o_add z_add (e_op o_add z_add (e_op o_mul z_mul e_str e_int) e_str) (e_op o_mul z_mul e_str e_int)) e_str))
      (ss_cons (s_if (SW.st (w_or (t_cmp (o_ne hu) z_ne (e_call (c_L_said T) room tk (a_cons (e_var 0) a_nil) (hk := by omega) (hc := (cnt_cons cnt_nil))) (e_tup (a_cons e_str a_nil)) rfl) (w_or (t_cmp (o_ne hu) z_ne (e_call (c_L_said T) room tk (a_cons (e_op o_add z_add e_str (e_op o_mul z_mul e_str e_int)) a_nil) (hk := by omega) (hc := (cnt_cons cnt_nil))) (e_tup (a_cons e_str a_nil)) rfl) (w_or1 (t_cmp (o_ne hu) z_ne (e_call (c_L_said T) room tk (a_cons (e_op o_add z_add e_str (e_op o_mul z_mul e_str e_int)) a_nil) (hk := by omega) (hc := (cnt_cons cnt_nil))) (e_un un_neg z_neg e_int) rfl))))) (ss_one (s_ret e_bl)) ss_nil)
      (ss_cons (s_if (SW.st (w_or (t_cmp (o_ne hu) z_ne (e_call (c_L_said T) room tk (a_cons (e_op o_mul z_mul e_str e_int) a_nil) (hk := by omega) (hc := (cnt_cons cnt_nil))) e_int rfl) (w_or (t_cmp (o_ne hu) z_ne (e_call (c_L_said T) room tk (a_cons (e_op o_mul z_mul e_str e_int) a_nil) (hk := by omega) (hc := (cnt_cons cnt_nil))) (e_un un_neg z_neg e_int) rfl) (w_or1 (t_cmp (o_ne hu) z_ne (e_call (c_L_said T) room tk (a_cons (e_op o_add z_add e_str (e_op o_mul z_mul e_str e_int)) a_nil) (hk := by omega) (hc := (cnt_cons cnt_nil))) (e_tup (a_cons e_str a_nil)) rfl))))) (ss_one (s_ret e_bl)) ss_nil)
      (ss_cons (s_for big hp rfl (i_val (e_tup (a_cons e_non (a_cons e_int (a_cons (e_lst (a_cons e_str a_nil)) (a_cons (e_tup (a_cons e_str (a_cons e_str a_nil))) (a_cons e_bl (a_cons e_dict0 (a_cons (e_lst (a_cons e_int a_nil)) a_nil))))))))) (g_name 1 sc_L_long_right.nd) (DGok.name 1) (ss_one (s_if (t_cmp (o_ne hu) z_ne (e_call (c_L_said T) room tk (a_cons (e_var 1) a_nil) (hk := by omega) (hc := (cnt_cons cnt_nil))) (e_un un_neg z_neg e_int) rfl) (ss_one (s_ret e_bl)) ss_nil)))
      (ss_cons (s_set 2 sc_L_long_right.nd (e_lst (a_cons (e_tup (a_cons e_str (a_cons (e_tup a_nil) a_nil))) (a_cons (e_tup (a_cons e_str (a_cons (e_tup a_nil) a_nil))) (a_cons (e_tup (a_cons e_str (a_cons (e_tup (a_cons e_str (a_cons e_str (a_cons e_str (a_cons e_str a_nil))))) a_nil))) (a_cons (e_tup (a_cons e_str (a_cons e_int a_nil))) (a_cons (e_tup (a_cons e_str (a_cons e_int a_nil))) (a_cons (e_tup (a_cons e_str (a_cons e_int a_nil))) (a_cons (e_tup (a_cons e_str (a_cons e_int a_nil))) a_nil)))))))))
      (ss_cons (s_set 2 sc_L_long_right.nd (e_op o_add z_add (e_var 2) (e_lst (a_cons (e_tup (a_cons e_str (a_cons e_int a_nil))) (a_cons (e_tup (a_cons e_str (a_cons e_int a_nil))) (a_cons (e_tup (a_cons e_str (a_cons e_int a_nil))) (a_cons (e_tup (a_cons e_str (a_cons e_int a_nil))) (a_cons (e_tup (a_cons e_str (a_cons e_int a_nil))) (a_cons (e_tup (a_cons e_str (a_cons e_int a_nil))) (a_cons (e_tup (a_cons e_str (a_cons e_int a_nil))) a_nil))))))))))
      (ss_cons (s_set 2 sc_L_long_right.nd (e_op o_add z_add (e_var 2) (e_lst (a_cons (e_tup (a_cons e_str (a_cons e_int a_nil))) (a_cons (e_tup (a_cons e_str (a_cons e_int a_nil))) (a_cons (e_tup (a_cons e_str (a_cons e_int a_nil))) (a_cons (e_tup (a_cons e_str (a_cons e_int a_nil))) (a_cons (e_tup (a_cons e_str (a_cons e_int a_nil))) (a_cons (e_tup (a_cons e_str (a_cons e_int a_nil))) a_nil)))))))))
      (ss_one (s_ret (e_cmp (o_eq hu) z_eq (e_lc big (own := [("_law_text", 3), ("_law_due_here", 4)]) rfl sc_L_long_right.nd (i_val (e_var 2)) (blkOk_by (N := N_L_long_right) (sc := defScope s_L_long_right) (by decide +kernel)) (fun _ _ _ _ _ => pg_tup rfl (pgs_cons (pg_name (i := 3) sc_L_long_right.nd rfl (Or.inl rfl)) (pgs_cons (pg_name (i := 4) sc_L_long_right.nd rfl (Or.inl rfl)) pgs_nil))) (fun _ _ _ _ _ => (ts_one (t_cmp (o_ne hu) z_ne (e_call (c_L_said T) room takes0 (a_cons (e_var 3) a_nil) (hk := by omega) (hc := (cnt_cons cnt_nil))) (e_var 4) rfl))) (fun _ _ _ _ _ => (e_var 3))) (e_lst a_nil) rfl)))))))))))
/-- _law_source -/
def b_L_source : DS :=
  (dSeq (dSet 0 (dCB absZ (dCons (dVar 0) dNil))) (dRet (dLst (dCons (dBin mulZ (dVar 0) (dCB intfZ (dCons (dBin geZ (dVar 0) (dBin powZ (dC (.int 10)) (dC (.int 18)))) dNil))) (dCons (dBin modZ (dCB intfZ (dCons (dVar 0) dNil)) (dC (.int 2147483587))) (dCons (dC (.int 0)) dNil))))))
def F_L_source : Fn := runD 1 b_L_source
theorem c_L_source (T : Tx K mg a) : CalZ P w mg base (gg K a) 2 "_law_source" 1 [] F_L_source := by
  obtain ⟨fd, fu⟩ := T.F_L_source
  exact cal_mk T.m_L_source fu rfl (fu.binds (ps := ["_law_cell"]) fun _ _ _ _ _ _ us hl => match us, hl with | [_], _ => rfl) (fnz_defT fu sc_L_source fun cdv A outer s H E room tk hp hu =>
    (ss_cons (s_set 0 sc_L_source.nd (e_cb call_abs z_abs T.n_abs (by decide +kernel) (a_cons (e_var 0) a_nil)))
      (ss_one (s_ret (e_lst (a_cons (e_op o_mul z_mul (e_var 0) (e_ct call_int1 z_intf T.n_int (by decide +kernel) (a_cons (e_cmp op_ge z_ge (e_var 0) (e_op op_pow z_pow e_int e_int) rfl) a_nil))) (a_cons (e_op op_mod z_mod (e_ct call_int1 z_intf T.n_int (by decide +kernel) (a_cons (e_var 0) a_nil)) e_int) (a_cons e_int a_nil))))))))
/-- _law_draw -/
def b_L_draw : DS :=
  (dSeq (dIte (dTst (dBin gtZ (dBin ixZ (dVar 0) (dC (.int 0))) (dC (.int 0)))) (dSeq (dSet 2 (dBin modZ (dCB intfZ (dCons (dBin ixZ (dVar 0) (dC (.int 0))) dNil)) (dVar 1))) (dSeq (dAsg (dBin divZ (dBin ixZ (dVar 0) (dC (.int 0))) (dVar 1)) (gSb setZ (dVar 0) (dC (.int 0)))) (dRet (dVar 2)))) dNop) (dSeq (dAsg (dBin addZ (dBin ixZ (dVar 0) (dC (.int 2))) (dC (.int 1))) (gSb setZ (dVar 0) (dC (.int 2)))) (dSeq (dSet 3 (dBin modZ (dCB intfZ (dCons (dBin mulZ (dBin addZ (dBin addZ (dBin ixZ (dVar 0) (dC (.int 1))) (dBin mulZ (dC (.int 7919)) (dBin ixZ (dVar 0) (dC (.int 2))))) (dC (.int 13))) (dC (.int 48271))) dNil)) (dC (.int 2147483629)))) (dSeq (dSet 3 (dBin modZ (dCB intfZ (dCons (dBin mulZ (dVar 3) (dBin addZ (dBin divZ (dVar 3) (dC (.int 1019))) (dC (.int 69621)))) dNil)) (dC (.int 2147483579)))) (dRet (dBin modZ (dCB intfZ (dCons (dBin divZ (dBin modZ (dCB intfZ (dCons (dBin mulZ (dVar 3) (dBin addZ (dBin divZ (dVar 3) (dC (.int 2003))) (dC (.int 40692)))) dNil)) (dC (.int 2147483549))) (dC (.int 3))) dNil)) (dVar 1)))))))
def F_L_draw : Fn := runD 4 b_L_draw
theorem c_L_draw (T : Tx K mg a) : CalZ P w mg base (gg K a) 2 "_law_draw" 2 [] F_L_draw := by
  obtain ⟨fd, fu⟩ := T.F_L_draw
  exact cal_mk T.m_L_draw fu rfl (fu.binds (ps := ["_law_source_here", "_law_many"]) fun _ _ _ _ _ _ us hl => match us, hl with | [_, _], _ => rfl) (fnz_defT fu sc_L_draw fun cdv A outer s H E room tk hp hu =>
    (ss_cons (s_if (t_cmp op_gt z_gt (e_ix o_ix z_ix (e_var 0) e_int (fun _ _ => rfl)) e_int rfl) (ss_cons (s_set 2 sc_L_draw.nd (e_op op_mod z_mod (e_ct call_int1 z_intf T.n_int (by decide +kernel) (a_cons (e_ix o_ix z_ix (e_var 0) e_int (fun _ _ => rfl)) a_nil)) (e_var 1)))
      (ss_cons (s_asg (e_op op_fdivW z_div (e_ix o_ix z_ix (e_var 0) e_int (fun _ _ => rfl)) (e_var 1)) (g_sub set_list z_set (e_var 0) e_int) DGok.sub)
      (ss_one (s_ret (e_var 2))))) ss_nil)
      (ss_cons (s_asg (e_op o_add z_add (e_ix o_ix z_ix (e_var 0) e_int (fun _ _ => rfl)) e_int) (g_sub set_list z_set (e_var 0) e_int) DGok.sub)
      (ss_cons (s_set 3 sc_L_draw.nd (e_op op_mod z_mod (e_ct call_int1 z_intf T.n_int (by decide +kernel) (a_cons (e_op o_mul z_mul (e_op o_add z_add (e_op o_add z_add (e_ix o_ix z_ix (e_var 0) e_int (fun _ _ => rfl)) (e_op o_mul z_mul e_int (e_ix o_ix z_ix (e_var 0) e_int (fun _ _ => rfl)))) e_int) e_int) a_nil)) e_int))
      (ss_cons (s_set 3 sc_L_draw.nd (e_op op_mod z_mod (e_ct call_int1 z_intf T.n_int (by decide +kernel) (a_cons (e_op o_mul z_mul (e_var 3) (e_op o_add z_add (e_op op_fdivW z_div (e_var 3) e_int) e_int)) a_nil)) e_int))
      (ss_one (s_ret (e_op op_mod z_mod (e_ct call_int1 z_intf T.n_int (by decide +kernel) (a_cons (e_op op_fdivW z_div (e_op op_mod z_mod (e_ct call_int1 z_intf T.n_int (by decide +kernel) (a_cons (e_op o_mul z_mul (e_var 3) (e_op o_add z_add (e_op op_fdivW z_div (e_var 3) e_int) e_int)) a_nil)) e_int) e_int) a_nil)) (e_var 1)))))))))
/-- _law_pick -/
def b_L_pick : DS :=
  (dRet (dBin ixZ (dVar 1) (dCall F_L_draw [] (dCons (dVar 0) (dCons (dCB lenZ (dCons (dVar 1) dNil)) dNil)))))
def F_L_pick : Fn := runD 2 b_L_pick
theorem c_L_pick (T : Tx K mg a) : CalZ P w mg base (gg K a) 3 "_law_pick" 2 [] F_L_pick := by
  obtain ⟨fd, fu⟩ := T.F_L_pick
  exact cal_mk T.m_L_pick fu rfl (fu.binds (ps := ["_law_source_here", "_law_some"]) fun _ _ _ _ _ _ us hl => match us, hl with | [_, _], _ => rfl) (fnz_defT fu sc_L_pick fun cdv A outer s H E room tk hp hu =>
    (ss_one (s_ret (e_ix o_ix z_ix (e_var 1) (e_call (c_L_draw T) room tk (a_cons (e_var 0) (a_cons (e_cb c_len z_len T.n_len (by decide +kernel) (a_cons (e_var 1) a_nil)) a_nil)) (hk := by omega) (hc := (cnt_cons (cnt_cons cnt_nil)))) (fun _ _ => rfl)))))
/-- _law_term -/
def b_L_term (f_L_term : Fn) : DS :=
  (dSeq (dIte (dTst (dBin eqZ (dCall F_L_draw [] (dCons (dVar 0) (dCons (dC (.int 6)) dNil))) (dC (.int 0)))) (dRet (dC (.str "1"))) dNop) (dSeq (dSet 2 (dC (.str ""))) (dSeq (dFor big (iRg1 (dBin addZ (dC (.int 1)) (dCall F_L_draw [] (dCons (dVar 0) (dCons (dC (.int 3)) dNil))))) (gNm 3) (dSeq (dSet 4 (dCall F_L_pick [] (dCons (dVar 0) (dCons (dLst (dCons (dC (.str "w")) (dCons (dC (.str "x")) (dCons (dC (.str "y")) (dCons (dC (.str "z")) dNil))))) dNil)))) (dSeq (dIte (dAnd (dTst (dBin gtZ (dVar 1) (dC (.int 0)))) (dTst (dBin eqZ (dCall F_L_draw [] (dCons (dVar 0) (dCons (dC (.int 3)) dNil))) (dC (.int 0))))) (dSet 4 (dBin addZ (dBin addZ (dC (.str "(")) (dCall f_L_term [] (dCons (dVar 0) (dCons (dBin subZ (dVar 1) (dC (.int 1))) dNil)))) (dC (.str ")")))) dNop) (dSet 2 (dBin addZ (dBin addZ (dVar 2) (dVar 4)) (dCall F_L_pick [] (dCons (dVar 0) (dCons (dLst (dCons (dC (.str "")) (dCons (dC (.str "")) (dCons (dC (.str "^")) (dCons (dC (.str "~")) (dCons (dC (.str "^^")) (dCons (dC (.str "~^~")) dNil))))))) dNil)))))))) (dRet (dVar 2)))))
def R_L_term : Nat → Fn
  | 0 => (fno)
  | n + 1 => (runD 5 (b_L_term ((R_L_term n))))
def F_L_term (n : Nat) : Fn := (R_L_term n)
theorem F_L_term_s (n : Nat) : F_L_term (n + 1) = runD 5 (b_L_term (F_L_term n)) := rfl
theorem k_L_term (T : Tx K mg a) {j : Nat} {f_L_term : Fn} (h_L_term : CalZ P w mg base (gg K a) j "_law_term" 2 [] f_L_term) (hj : 3 ≤ j) : CalZ P w mg base (gg K a) (j + 1) "_law_term" 2 [] (runD 5 (b_L_term f_L_term)) := by
  obtain ⟨fd, fu⟩ := T.F_L_term
  exact cal_mk T.m_L_term fu rfl (fu.binds (ps := ["_law_source_here", "_law_deep"]) fun _ _ _ _ _ _ us hl => match us, hl with | [_, _], _ => rfl) (fnz_defT fu sc_L_term fun cdv A outer s H E room tk hp hu =>
    (ss_cons (s_if (t_cmp (o_eq hu) z_eq (e_call (c_L_draw T) room tk (a_cons (e_var 0) (a_cons e_int a_nil)) (hk := by omega) (hc := (cnt_cons (cnt_cons cnt_nil)))) e_int rfl) (ss_one (s_ret e_str)) ss_nil)
      (ss_cons (s_set 2 sc_L_term.nd e_str)
      (ss_cons (s_for big hp rfl (i_range1 (e_op o_add z_add e_int (e_call (c_L_draw T) room tk (a_cons (e_var 0) (a_cons e_int a_nil)) (hk := by omega) (hc := (cnt_cons (cnt_cons cnt_nil))))) T.n_range) (g_name 3 sc_L_term.nd) (DGok.name 3) (ss_cons (s_set 4 sc_L_term.nd (e_call (c_L_pick T) room tk (a_cons (e_var 0) (a_cons (e_lst (a_cons e_str (a_cons e_str (a_cons e_str (a_cons e_str a_nil))))) a_nil)) (hk := by omega) (hc := (cnt_cons (cnt_cons cnt_nil)))))
      (ss_cons (s_if (SW.st (w_and (t_cmp op_gt z_gt (e_var 1) e_int rfl) (w_and1 (t_cmp (o_eq hu) z_eq (e_call (c_L_draw T) room tk (a_cons (e_var 0) (a_cons e_int a_nil)) (hk := by omega) (hc := (cnt_cons (cnt_cons cnt_nil)))) e_int rfl)))) (ss_one (s_set 4 sc_L_term.nd (e_op o_add z_add (e_op o_add z_add e_str (e_call h_L_term room tk (a_cons (e_var 0) (a_cons (e_op op_sub z_sub (e_var 1) e_int) a_nil)) (hk := by omega) (hc := (cnt_cons (cnt_cons cnt_nil))))) e_str))) ss_nil)
      (ss_one (s_set 2 sc_L_term.nd (e_op o_add z_add (e_op o_add z_add (e_var 2) (e_var 4)) (e_call (c_L_pick T) room tk (a_cons (e_var 0) (a_cons (e_lst (a_cons e_str (a_cons e_str (a_cons e_str (a_cons e_str (a_cons e_str (a_cons e_str a_nil))))))) a_nil)) (hk := by omega) (hc := (cnt_cons (cnt_cons cnt_nil))))))))))
      (ss_one (s_ret (e_var 2)))))))
theorem r_L_term (T : Tx K mg a) : ∀ n : Nat, (CalZ P w mg base (gg K a) (3 + n) "_law_term" 2 [] (F_L_term n))
  | 0 => by
    obtain ⟨fd_L_term, fu_L_term⟩ := T.F_L_term
    exact cal_mk T.m_L_term fu_L_term rfl (fu_L_term.binds (ps := ["_law_source_here", "_law_deep"]) fun _ _ _ _ _ _ us hl => match us, hl with | [_, _], _ => rfl) (fnz_no rfl)
  | n + 1 => by
    obtain h0 := r_L_term T n
    exact k_L_term T h0 (Nat.le_add_right _ _)
theorem c_L_term (T : Tx K mg a) : CalZ P w mg base (gg K a) 603 "_law_term" 2 [] (F_L_term 600) := r_L_term T 600
/-- _law_is_open -/
def b_L_is_open : DS :=
  (dSeq (dIte (dTst (dBin eqZ (dVar 0) (dC (.str "begin")))) (dRet (dBin inV' (dVar 1) (dTup (dCons (dC (.str "1")) (dCons (dC (.str "w")) (dCons (dC (.str "x")) (dCons (dC (.str "y")) (dCons (dC (.str "z")) (dCons (dC (.str "(")) dNil))))))))) dNop) (dSeq (dIte (dTst (dBin eqZ (dVar 1) (dC (.str ")")))) (dRet (dBin gtZ (dVar 2) (dC (.int 0)))) dNop) (dSeq (dIte (dTst (dBin eqZ (dVar 1) (dC (.str "=")))) (dRet (dAndV (dBin eqZ (dVar 2) (dC (.int 0))) (dNotV (dVar 3)))) dNop) (dRet (dAndV (dBin eqZ (dVar 0) (dC (.str "factor"))) (dBin inV' (dVar 1) (dTup (dCons (dC (.str "w")) (dCons (dC (.str "x")) (dCons (dC (.str "y")) (dCons (dC (.str "z")) (dCons (dC (.str "(")) (dCons (dC (.str "^")) (dCons (dC (.str "~")) dNil))))))))))))))
def F_L_is_open : Fn := runD 4 b_L_is_open
theorem c_L_is_open (T : Tx K mg a) : CalZ P w mg base (gg K a) 2 "_law_is_open" 4 [] F_L_is_open := by
  obtain ⟨fd, fu⟩ := T.F_L_is_open
  exact cal_mk T.m_L_is_open fu rfl (fu.binds (ps := ["_law_mood", "_law_sign", "_law_depth", "_law_is_second"]) fun _ _ _ _ _ _ us hl => match us, hl with | [_, _, _, _], _ => rfl) (fnz_defT fu sc_L_is_open fun cdv A outer s H E room tk hp hu =>
    (ss_cons (s_if (t_cmp (o_eq hu) z_eq (e_var 0) e_str rfl) (ss_one (s_ret (e_cmp (o_in hu) z_in (e_var 1) (e_tup (a_cons e_str (a_cons e_str (a_cons e_str (a_cons e_str (a_cons e_str (a_cons e_str a_nil))))))) rfl))) ss_nil)
      (ss_cons (s_if (t_cmp (o_eq hu) z_eq (e_var 1) e_str rfl) (ss_one (s_ret (e_cmp op_gt z_gt (e_var 2) e_int rfl))) ss_nil)
      (ss_cons (s_if (t_cmp (o_eq hu) z_eq (e_var 1) e_str rfl) (ss_one (s_ret (v_and rfl (e_cmp (o_eq hu) z_eq (e_var 2) e_int rfl) (v_one (v_not rfl (e_var 3)))))) ss_nil)
      (ss_one (s_ret (v_and rfl (e_cmp (o_eq hu) z_eq (e_var 0) e_str rfl) (v_one (e_cmp (o_in hu) z_in (e_var 1) (e_tup (a_cons e_str (a_cons e_str (a_cons e_str (a_cons e_str (a_cons e_str (a_cons e_str (a_cons e_str a_nil)))))))) rfl)))))))))
/-- _law_fault -/
def b_L_fault : DS :=
  (dSeq (dAsg (dTup (dCons (dC (.str "begin")) (dCons (dC (.int 0)) (dCons (dC (.bl false)) dNil)))) (gTu 3 (gCo (gNm 1) (gCo (gNm 2) (gCo (gNm 3) gNo))))) (dSeq (dFor big (iEnu (dVar 0)) (gTu 2 (gCo (gNm 4) (gCo (gNm 5) gNo))) (dSeq (dIte (dNot (dTru (dCall F_L_is_open [] (dCons (dVar 1) (dCons (dVar 5) (dCons (dVar 2) (dCons (dVar 3) dNil))))))) (dRet (dVar 4)) dNop) (dIte (dTst (dBin eqZ (dVar 5) (dC (.str "(")))) (dPar [1, 2] (dCons (dC (.str "begin")) (dCons (dBin addZ (dVar 2) (dC (.int 1))) dNil))) (dIte (dTst (dBin eqZ (dVar 5) (dC (.str "=")))) (dAsg (dTup (dCons (dC (.str "begin")) (dCons (dC (.bl true)) dNil))) (gTu 2 (gCo (gNm 1) (gCo (gNm 3) gNo)))) (dIte (dTst (dBin eqZ (dVar 5) (dC (.str ")")))) (dPar [1, 2] (dCons (dC (.str "factor")) (dCons (dBin subZ (dVar 2) (dC (.int 1))) dNil))) (dIte (dTst (dBin eqZ (dVar 1) (dC (.str "begin")))) (dSet 1 (dIf (dTst (dBin eqZ (dVar 5) (dC (.str "1")))) (dC (.str "one")) (dC (.str "factor")))) (dIte (dTst (dBin inV' (dVar 5) (dC (.str "wxyz")))) (dSet 1 (dC (.str "factor"))) dNop))))))) (dSeq (dSet 6 (dAndV (dVar 3) (dAndV (dBin eqZ (dVar 2) (dC (.int 0))) (dBin neZ (dVar 1) (dC (.str "begin")))))) (dRet (dIf (dTru (dVar 6)) (dC .non) (dCB lenZ (dCons (dVar 0) dNil)))))))
def F_L_fault : Fn := runD 7 b_L_fault
theorem c_L_fault (T : Tx K mg a) : CalZ P w mg base (gg K a) 3 "_law_fault" 1 [] F_L_fault := by
  obtain ⟨fd, fu⟩ := T.F_L_fault
  exact cal_mk T.m_L_fault fu rfl (fu.binds (ps := ["_law_text"]) fun _ _ _ _ _ _ us hl => match us, hl with | [_], _ => rfl) (fnz_defT fu sc_L_fault fun cdv A outer s H E room tk hp hu =>
    (ss_cons (s_asg (e_tup (a_cons e_str (a_cons e_int (a_cons e_bl a_nil)))) (g_tup rfl (g_cons (g_name 1 sc_L_fault.nd) (g_cons (g_name 2 sc_L_fault.nd) (g_cons (g_name 3 sc_L_fault.nd) g_nil)))) (DGok.tup (DGsok.cons (DGok.name 1) (DGsok.cons (DGok.name 2) (DGsok.cons (DGok.name 3) DGsok.nil)))))
      (ss_cons (s_for big hp rfl (i_enum (e_var 0) T.n_enumerate) (g_tup rfl (g_cons (g_name 4 sc_L_fault.nd) (g_cons (g_name 5 sc_L_fault.nd) g_nil))) (DGok.tup (DGsok.cons (DGok.name 4) (DGsok.cons (DGok.name 5) DGsok.nil))) (ss_cons (s_if (t_not (t_tru rfl (e_call (c_L_is_open T) room tk (a_cons (e_var 1) (a_cons (e_var 5) (a_cons (e_var 2) (a_cons (e_var 3) a_nil)))) (hk := by omega) (hc := (cnt_cons (cnt_cons (cnt_cons (cnt_cons cnt_nil)))))))) (ss_one (s_ret (e_var 4))) ss_nil)
      (ss_one (s_if (t_cmp (o_eq hu) z_eq (e_var 5) e_str rfl) (ss_one (s_par 1 2 rfl sc_L_fault.nd (a_cons e_str (a_cons (e_op o_add z_add (e_var 2) e_int) a_nil)))) (ss_one (s_if (t_cmp (o_eq hu) z_eq (e_var 5) e_str rfl) (ss_one (s_asg (e_tup (a_cons e_str (a_cons e_bl a_nil))) (g_tup rfl (g_cons (g_name 1 sc_L_fault.nd) (g_cons (g_name 3 sc_L_fault.nd) g_nil))) (DGok.tup (DGsok.cons (DGok.name 1) (DGsok.cons (DGok.name 3) DGsok.nil))))) (ss_one (s_if (t_cmp (o_eq hu) z_eq (e_var 5) e_str rfl) (ss_one (s_par 1 2 rfl sc_L_fault.nd (a_cons e_str (a_cons (e_op op_sub z_sub (e_var 2) e_int) a_nil)))) (ss_one (s_if (t_cmp (o_eq hu) z_eq (e_var 1) e_str rfl) (ss_one (s_set 1 sc_L_fault.nd (e_if (t_cmp (o_eq hu) z_eq (e_var 5) e_str rfl) e_str e_str))) (ss_one (s_if (t_cmp (o_in hu) z_in (e_var 5) e_str rfl) (ss_one (s_set 1 sc_L_fault.nd e_str)) ss_nil))))))))))))
      (ss_cons (s_set 6 sc_L_fault.nd (v_and rfl (e_var 3) (v_and rfl (e_cmp (o_eq hu) z_eq (e_var 2) e_int rfl) (v_one (e_cmp (o_ne hu) z_ne (e_var 1) e_str rfl)))))
      (ss_one (s_ret (e_if (t_tru rfl (e_var 6)) e_non (e_cb c_len z_len T.n_len (by decide +kernel) (a_cons (e_var 0) a_nil)))))))))
/-- _law_due -/
def b_L_due : DS :=
  (dSeq (dSet 1 (dCall F_L_fault [] (dCons (dVar 0) dNil))) (dSeq (dIte (dTst (dNoN (dVar 1))) (dRet (dVar 1)) dNop) (dRet (dCB tupfZ (dCons (dLc big (iVal (dTup (dCons (dC (.str "w")) (dCons (dC (.str "x")) (dCons (dC (.str "y")) (dCons (dC (.str "z")) dNil)))))) (.one 2) (dTst (dBin inV' (dVar 2) (dVar 0))) (dVar 2) [2]) dNil)))))
def F_L_due : Fn := runD 3 b_L_due
theorem c_L_due (T : Tx K mg a) : CalZ P w mg base (gg K a) 4 "_law_due" 1 [] F_L_due := by
  obtain ⟨fd, fu⟩ := T.F_L_due
  exact cal_mk T.m_L_due fu rfl (fu.binds (ps := ["_law_text"]) fun _ _ _ _ _ _ us hl => match us, hl with | [_], _ => rfl) (fnz_defT fu sc_L_due fun cdv A outer s H E room tk hp hu =>
    (ss_cons (s_set 1 sc_L_due.nd (e_call (c_L_fault T) room tk (a_cons (e_var 0) a_nil) (hk := by omega) (hc := (cnt_cons cnt_nil))))
      (ss_cons (s_if (t_noN (e_var 1)) (ss_one (s_ret (e_var 1))) ss_nil)
      (ss_one (s_ret (e_ct c_tup z_tup T.n_tuple (by decide +kernel) (a_cons (e_lc big (own := [("_law_name", 2)]) rfl sc_L_due.nd (i_val (e_tup (a_cons e_str (a_cons e_str (a_cons e_str (a_cons e_str a_nil)))))) (blkOk_by (N := N_L_due) (sc := defScope s_L_due) (by decide +kernel)) (fun _ _ _ _ _ => pg_name (i := 2) sc_L_due.nd rfl (Or.inl rfl)) (fun _ _ _ _ _ => (ts_one (t_cmp (o_in hu) z_in (e_var 2) (e_var 0) rfl))) (fun _ _ _ _ _ => (e_var 2))) a_nil)))))))
/-- _law_right -/
def b_L_right : DS :=
  (dSeq (dSet 1 (dBin addZ (dBin addZ (dCall (F_L_term 600) [] (dCons (dVar 0) (dCons (dC (.int 6)) dNil))) (dC (.str "="))) (dCall (F_L_term 600) [] (dCons (dVar 0) (dCons (dC (.int 6)) dNil))))) (dSeq (dIte (dTst (dBin gtZ (dCB lenZ (dCons (dVar 1) dNil)) (dC (.int 180)))) (dRet (dC (.bl true))) dNop) (dSeq (dIte (dOr (dTst (dNoN (dCall F_L_fault [] (dCons (dVar 1) dNil)))) (dTst (dBin neZ (dCall F_L_said [] (dCons (dVar 1) dNil)) (dCall F_L_due [] (dCons (dVar 1) dNil))))) (dRet (dC (.bl false))) dNop) (dSeq (dFor big (iRg1 (dC (.int 8))) (gNm 2) (dSeq (dSet 3 (dCall F_L_draw [] (dCons (dVar 0) (dCons (dBin addZ (dCB lenZ (dCons (dVar 1) dNil)) (dC (.int 1))) dNil)))) (dSeq (dSet 4 (dCall F_L_pick [] (dCons (dVar 0) (dCons (dLst (dCons (dC (.str "")) (dCons (dC (.str "1")) (dCons (dC (.str "w")) (dCons (dC (.str "z")) (dCons (dC (.str "(")) (dCons (dC (.str ")")) (dCons (dC (.str "^")) (dCons (dC (.str "~")) (dCons (dC (.str "=")) (dCons (dC (.str " ")) (dCons (dC (.str "a")) (dCons (dC (.str "X")) (dCons (dC (.str "0")) (dCons (dC (.str "*")) (dCons (dC (.str "2")) dNil)))))))))))))))) dNil)))) (dSeq (dSet 5 (dBin addZ (dBin addZ (dSl (dVar 1) dNoP (dPt (dVar 3))) (dVar 4)) (dSl (dVar 1) (dPt (dBin addZ (dVar 3) (dCall F_L_draw [] (dCons (dVar 0) (dCons (dC (.int 2)) dNil))))) dNoP))) (dIte (dOr (dTst (dBin neZ (dCall F_L_said [] (dCons (dVar 5) dNil)) (dCall F_L_due [] (dCons (dVar 5) dNil)))) (dTst (dBin neZ (dCall F_L_said [] (dCons (dSl (dVar 1) dNoP (dPt (dVar 3))) dNil)) (dCall F_L_due [] (dCons (dSl (dVar 1) dNoP (dPt (dVar 3))) dNil))))) (dRet (dC (.bl false))) dNop))))) (dRet (dC (.bl true)))))))
def F_L_right : Fn := runD 6 b_L_right
theorem c_L_right (T : Tx K mg a) : CalZ P w mg base (gg K a) 607 "_law_right" 1 [] F_L_right := by
  obtain ⟨fd, fu⟩ := T.F_L_right
  exact cal_mk T.m_L_right fu rfl (fu.binds (ps := ["_law_source_here"]) fun _ _ _ _ _ _ us hl => match us, hl with | [_], _ => rfl) (fnz_defT fu sc_L_right fun cdv A outer s H E room tk hp hu =>
    (ss_cons (s_set 1 sc_L_right.nd (e_op o_add z_add (e_op o_add z_add (e_call (c_L_term T) room tk (a_cons (e_var 0) (a_cons e_int a_nil)) (hk := by omega) (hc := (cnt_cons (cnt_cons cnt_nil)))) e_str) (e_call (c_L_term T) room tk (a_cons (e_var 0) (a_cons e_int a_nil)) (hk := by omega) (hc := (cnt_cons (cnt_cons cnt_nil))))))
      (ss_cons (s_if (t_cmp op_gt z_gt (e_cb c_len z_len T.n_len (by decide +kernel) (a_cons (e_var 1) a_nil)) e_int rfl) (ss_one (s_ret e_bl)) ss_nil)
      (ss_cons (s_if (SW.st (w_or (t_noN (e_call (c_L_fault T) room tk (a_cons (e_var 1) a_nil) (hk := by omega) (hc := (cnt_cons cnt_nil)))) (w_or1 (t_cmp (o_ne hu) z_ne (e_call (c_L_said T) room tk (a_cons (e_var 1) a_nil) (hk := by omega) (hc := (cnt_cons cnt_nil))) (e_call (c_L_due T) room tk (a_cons (e_var 1) a_nil) (hk := by omega) (hc := (cnt_cons cnt_nil))) rfl)))) (ss_one (s_ret e_bl)) ss_nil)
      (ss_cons (s_for big hp rfl (i_range1 e_int T.n_range) (g_name 2 sc_L_right.nd) (DGok.name 2) (ss_cons (s_set 3 sc_L_right.nd (e_call (c_L_draw T) room tk (a_cons (e_var 0) (a_cons (e_op o_add z_add (e_cb c_len z_len T.n_len (by decide +kernel) (a_cons (e_var 1) a_nil)) e_int) a_nil)) (hk := by omega) (hc := (cnt_cons (cnt_cons cnt_nil)))))
      (ss_cons (s_set 4 sc_L_right.nd (e_call (c_L_pick T) room tk (a_cons (e_var 0) (a_cons (e_lst (a_cons e_str (a_cons e_str (a_cons e_str (a_cons e_str (a_cons e_str (a_cons e_str (a_cons e_str (a_cons e_str (a_cons e_str (a_cons e_str (a_cons e_str (a_cons e_str (a_cons e_str (a_cons e_str (a_cons e_str a_nil)))))))))))))))) a_nil)) (hk := by omega) (hc := (cnt_cons (cnt_cons cnt_nil)))))
      (ss_cons (s_set 5 sc_L_right.nd (e_op o_add z_add (e_op o_add z_add (e_sl (e_var 1) p_none (p_some (e_var 3))) (e_var 4)) (e_sl (e_var 1) (p_some (e_op o_add z_add (e_var 3) (e_call (c_L_draw T) room tk (a_cons (e_var 0) (a_cons e_int a_nil)) (hk := by omega) (hc := (cnt_cons (cnt_cons cnt_nil)))))) p_none)))
      (ss_one (s_if (SW.st (w_or (t_cmp (o_ne hu) z_ne (e_call (c_L_said T) room tk (a_cons (e_var 5) a_nil) (hk := by omega) (hc := (cnt_cons cnt_nil))) (e_call (c_L_due T) room tk (a_cons (e_var 5) a_nil) (hk := by omega) (hc := (cnt_cons cnt_nil))) rfl) (w_or1 (t_cmp (o_ne hu) z_ne (e_call (c_L_said T) room tk (a_cons (e_sl (e_var 1) p_none (p_some (e_var 3))) a_nil) (hk := by omega) (hc := (cnt_cons cnt_nil))) (e_call (c_L_due T) room tk (a_cons (e_sl (e_var 1) p_none (p_some (e_var 3))) a_nil) (hk := by omega) (hc := (cnt_cons cnt_nil))) rfl)))) (ss_one (s_ret e_bl)) ss_nil))))))
      (ss_one (s_ret e_bl)))))))
/-- law -/
def b_law : DS :=
  (dSeq (dFor big (iVal (dSl (dBin addZ (dVar 0) (dLst (dCons (dC (.int 0)) dNil))) dNoP (dPt (dC (.int 4))))) (gNm 1) (dSeq (dSet 2 (dCall F_L_source [] (dCons (dVar 1) dNil))) (dFor big (iRg1 (dC (.int 8))) (gNm 3) (dIte (dNot (dTru (dCall F_L_right [] (dCons (dVar 2) dNil)))) (dRet (dC (.bl false))) dNop)))) (dRet (dCall F_L_long_right [] dNil)))
def F_law : Fn := runD 4 b_law
theorem z_law (T : Tx K mg a) {fd : FuncData} (fu : Fun K "law" "law" s_law a.flaw fd) : FnZ P w K mg base 608 a.flaw fd ["_law_script"] (spZ (gg K a) 1 F_law) :=
  fnz_defT (g := gg K a) fu sc_law fun cdv A outer s H E room tk hp hu =>
    (ss_cons (s_for big hp rfl (i_val (e_sl (e_op o_add z_add (e_var 0) (e_lst (a_cons e_int a_nil))) p_none (p_some e_int))) (g_name 1 sc_law.nd) (DGok.name 1) (ss_cons (s_set 2 sc_law.nd (e_call (c_L_source T) room tk (a_cons (e_var 1) a_nil) (hk := by omega) (hc := (cnt_cons cnt_nil))))
      (ss_one (s_for big hp rfl (i_range1 e_int T.n_range) (g_name 3 sc_law.nd) (DGok.name 3) (ss_one (s_if (t_not (t_tru rfl (e_call (c_L_right T) room tk (a_cons (e_var 2) a_nil) (hk := by omega) (hc := (cnt_cons cnt_nil))))) (ss_one (s_ret e_bl)) ss_nil))))))
      (ss_one (s_ret (e_call0 (c_L_long_right T) room tk (hk := by omega)))))
end
theorem all_mk {P : Program} {w : World} {K : PySem.W.Frag} {h : Heap} {mg : Str → Option Value} {fa : Addr} (X : K.In h) (G : h.Ns mainGlobals mg) (hfa : mg "law" = some (.ref fa))
    {cFoldError : Addr}
    {cNoTerm : Addr}
    {cReader : Addr}
    {fReader_init : Addr}
    {ocReader_init : Value}
    {odReader_init : Option Addr}
    {anReader_init : Option Addr}
    {slReader_init : Array (Option Value)}
    {kVReader_init : Value}
    {dcReader_init : Value}
    {pmReader_init : Value}
    {cdReader_init : Value}
    {ctReader_init : Value}
    {fReader_sign : Addr}
    {ocReader_sign : Value}
    {odReader_sign : Option Addr}
    {anReader_sign : Option Addr}
    {slReader_sign : Array (Option Value)}
    {kVReader_sign : Value}
    {dcReader_sign : Value}
    {pmReader_sign : Value}
    {cdReader_sign : Value}
    {ctReader_sign : Value}
    {fReader_demand : Addr}
    {ocReader_demand : Value}
    {odReader_demand : Option Addr}
    {anReader_demand : Option Addr}
    {slReader_demand : Array (Option Value)}
    {kVReader_demand : Value}
    {dcReader_demand : Value}
    {pmReader_demand : Value}
    {cdReader_demand : Value}
    {ctReader_demand : Value}
    {fReader_is_factor : Addr}
    {ocReader_is_factor : Value}
    {odReader_is_factor : Option Addr}
    {anReader_is_factor : Option Addr}
    {slReader_is_factor : Array (Option Value)}
    {kVReader_is_factor : Value}
    {dcReader_is_factor : Value}
    {pmReader_is_factor : Value}
    {cdReader_is_factor : Value}
    {ctReader_is_factor : Value}
    {fReader_term : Addr}
    {ocReader_term : Value}
    {odReader_term : Option Addr}
    {anReader_term : Option Addr}
    {slReader_term : Array (Option Value)}
    {kVReader_term : Value}
    {dcReader_term : Value}
    {pmReader_term : Value}
    {cdReader_term : Value}
    {ctReader_term : Value}
    {fReader_power : Addr}
    {ocReader_power : Value}
    {odReader_power : Option Addr}
    {anReader_power : Option Addr}
    {slReader_power : Array (Option Value)}
    {kVReader_power : Value}
    {dcReader_power : Value}
    {pmReader_power : Value}
    {cdReader_power : Value}
    {ctReader_power : Value}
    {ftwo_terms : Addr}
    {octwo_terms : Value}
    {odtwo_terms : Option Addr}
    {antwo_terms : Option Addr}
    {sltwo_terms : Array (Option Value)}
    {kVtwo_terms : Value}
    {dctwo_terms : Value}
    {pmtwo_terms : Value}
    {cdtwo_terms : Value}
    {cttwo_terms : Value}
    {fnames_in : Addr}
    {ocnames_in : Value}
    {odnames_in : Option Addr}
    {annames_in : Option Addr}
    {slnames_in : Array (Option Value)}
    {kVnames_in : Value}
    {dcnames_in : Value}
    {pmnames_in : Value}
    {cdnames_in : Value}
    {ctnames_in : Value}
    {fread_identity : Addr}
    {ocread_identity : Value}
    {odread_identity : Option Addr}
    {anread_identity : Option Addr}
    {slread_identity : Array (Option Value)}
    {kVread_identity : Value}
    {dcread_identity : Value}
    {pmread_identity : Value}
    {cdread_identity : Value}
    {ctread_identity : Value}
    {fL_said : Addr}
    {ocL_said : Value}
    {odL_said : Option Addr}
    {anL_said : Option Addr}
    {slL_said : Array (Option Value)}
    {kVL_said : Value}
    {dcL_said : Value}
    {pmL_said : Value}
    {cdL_said : Value}
    {ctL_said : Value}
    {fL_long_right : Addr}
    {ocL_long_right : Value}
    {odL_long_right : Option Addr}
    {anL_long_right : Option Addr}
    {slL_long_right : Array (Option Value)}
    {kVL_long_right : Value}
    {dcL_long_right : Value}
    {pmL_long_right : Value}
    {cdL_long_right : Value}
    {ctL_long_right : Value}
    {fL_source : Addr}
    {ocL_source : Value}
    {odL_source : Option Addr}
    {anL_source : Option Addr}
    {slL_source : Array (Option Value)}
    {kVL_source : Value}
    {dcL_source : Value}
    {pmL_source : Value}
    {cdL_source : Value}
    {ctL_source : Value}
    {fL_draw : Addr}
    {ocL_draw : Value}
    {odL_draw : Option Addr}
    {anL_draw : Option Addr}
    {slL_draw : Array (Option Value)}
    {kVL_draw : Value}
    {dcL_draw : Value}
    {pmL_draw : Value}
    {cdL_draw : Value}
    {ctL_draw : Value}
    {fL_pick : Addr}
    {ocL_pick : Value}
    {odL_pick : Option Addr}
    {anL_pick : Option Addr}
    {slL_pick : Array (Option Value)}
    {kVL_pick : Value}
    {dcL_pick : Value}
    {pmL_pick : Value}
    {cdL_pick : Value}
    {ctL_pick : Value}
    {fL_term : Addr}
    {ocL_term : Value}
    {odL_term : Option Addr}
    {anL_term : Option Addr}
    {slL_term : Array (Option Value)}
    {kVL_term : Value}
    {dcL_term : Value}
    {pmL_term : Value}
    {cdL_term : Value}
    {ctL_term : Value}
    {fL_is_open : Addr}
    {ocL_is_open : Value}
    {odL_is_open : Option Addr}
    {anL_is_open : Option Addr}
    {slL_is_open : Array (Option Value)}
    {kVL_is_open : Value}
    {dcL_is_open : Value}
    {pmL_is_open : Value}
    {cdL_is_open : Value}
    {ctL_is_open : Value}
    {fL_fault : Addr}
    {ocL_fault : Value}
    {odL_fault : Option Addr}
    {anL_fault : Option Addr}
    {slL_fault : Array (Option Value)}
    {kVL_fault : Value}
    {dcL_fault : Value}
    {pmL_fault : Value}
    {cdL_fault : Value}
    {ctL_fault : Value}
    {fL_due : Addr}
    {ocL_due : Value}
    {odL_due : Option Addr}
    {anL_due : Option Addr}
    {slL_due : Array (Option Value)}
    {kVL_due : Value}
    {dcL_due : Value}
    {pmL_due : Value}
    {cdL_due : Value}
    {ctL_due : Value}
    {fL_right : Addr}
    {ocL_right : Value}
    {odL_right : Option Addr}
    {anL_right : Option Addr}
    {slL_right : Array (Option Value)}
    {kVL_right : Value}
    {dcL_right : Value}
    {pmL_right : Value}
    {cdL_right : Value}
    {ctL_right : Value}
    {flaw : Addr}
    {oclaw : Value}
    {odlaw : Option Addr}
    {anlaw : Option Addr}
    {sllaw : Array (Option Value)}
    {kVlaw : Value}
    {dclaw : Value}
    {pmlaw : Value}
    {cdlaw : Value}
    {ctlaw : Value}
    {fNoTerm_init : Addr}
    {ocNoTerm_init : Value}
    {odNoTerm_init : Option Addr}
    {anNoTerm_init : Option Addr}
    {slNoTerm_init : Array (Option Value)}
    {kVNoTerm_init : Value}
    {dcNoTerm_init : Value}
    {pmNoTerm_init : Value}
    {cdNoTerm_init : Value}
    {ctNoTerm_init : Value}
    {nmNoTerm : Str}
    {qNoTerm : Str}
    {NNoTerm : Addr}
    {bsNoTerm : List Value}
    {bmNoTerm : List Value}
    {snNoTerm : List Str}
    {subNoTerm : List Value}
    {abNoTerm : Bool}
    {colNoTerm : Option Bool}
    {ddNoTerm : Option Addr}
    {m0NoTerm : Option Value}
    {m1NoTerm : Option Value}
    {m2NoTerm : Option Value}
    {m3NoTerm : Option Value}
    {m5NoTerm : Option Value}
    {tMOST_TEXT : Tok}
    {tNAMES : Tok}
    (AFoldError : PySem.W.nsIn K mainGlobals "FoldError" = some (some (.ref cFoldError)))
    (ANoTerm : PySem.W.nsIn K mainGlobals "NoTerm" = some (some (.ref cNoTerm)))
    (AReader : PySem.W.nsIn K mainGlobals "Reader" = some (some (.ref cReader)))
    (aReader_init : PySem.W.findIn K (.ref cReader) "__init__" = some (some (.ref fReader_init)))
    (lReader_init : K.lookup fReader_init = some ⟨ocReader_init, odReader_init, .func (PySem.W.fnOf "__init__" "Reader.__init__" (defArgs s_Reader_init) (defBody s_Reader_init) (defScope s_Reader_init) .none kVReader_init dcReader_init pmReader_init anReader_init cdReader_init ctReader_init), slReader_init⟩)
    (cReader_init : PySem.W.codeIn K cdReader_init "Reader.__init__" = true)
    (kReader_init : PySem.W.keepIn K (.ref fReader_init) = true)
    (iReader_init : PySem.W.isFn K (.ref fReader_init) = true)
    (mkReader : PySem.W.makesIn K cReader = true)
    (kcReader : PySem.W.keepIn K (.ref cReader) = true)
    (aReader_sign : PySem.W.findIn K (.ref cReader) "sign" = some (some (.ref fReader_sign)))
    (lReader_sign : K.lookup fReader_sign = some ⟨ocReader_sign, odReader_sign, .func (PySem.W.fnOf "sign" "Reader.sign" (defArgs s_Reader_sign) (defBody s_Reader_sign) (defScope s_Reader_sign) .none kVReader_sign dcReader_sign pmReader_sign anReader_sign cdReader_sign ctReader_sign), slReader_sign⟩)
    (cReader_sign : PySem.W.codeIn K cdReader_sign "Reader.sign" = true)
    (kReader_sign : PySem.W.keepIn K (.ref fReader_sign) = true)
    (iReader_sign : PySem.W.isFn K (.ref fReader_sign) = true)
    (aReader_demand : PySem.W.findIn K (.ref cReader) "demand" = some (some (.ref fReader_demand)))
    (lReader_demand : K.lookup fReader_demand = some ⟨ocReader_demand, odReader_demand, .func (PySem.W.fnOf "demand" "Reader.demand" (defArgs s_Reader_demand) (defBody s_Reader_demand) (defScope s_Reader_demand) .none kVReader_demand dcReader_demand pmReader_demand anReader_demand cdReader_demand ctReader_demand), slReader_demand⟩)
    (cReader_demand : PySem.W.codeIn K cdReader_demand "Reader.demand" = true)
    (kReader_demand : PySem.W.keepIn K (.ref fReader_demand) = true)
    (iReader_demand : PySem.W.isFn K (.ref fReader_demand) = true)
    (aReader_is_factor : PySem.W.findIn K (.ref cReader) "is_factor" = some (some (.ref fReader_is_factor)))
    (lReader_is_factor : K.lookup fReader_is_factor = some ⟨ocReader_is_factor, odReader_is_factor, .func (PySem.W.fnOf "is_factor" "Reader.is_factor" (defArgs s_Reader_is_factor) (defBody s_Reader_is_factor) (defScope s_Reader_is_factor) .none kVReader_is_factor dcReader_is_factor pmReader_is_factor anReader_is_factor cdReader_is_factor ctReader_is_factor), slReader_is_factor⟩)
    (cReader_is_factor : PySem.W.codeIn K cdReader_is_factor "Reader.is_factor" = true)
    (kReader_is_factor : PySem.W.keepIn K (.ref fReader_is_factor) = true)
    (iReader_is_factor : PySem.W.isFn K (.ref fReader_is_factor) = true)
    (aReader_term : PySem.W.findIn K (.ref cReader) "term" = some (some (.ref fReader_term)))
    (lReader_term : K.lookup fReader_term = some ⟨ocReader_term, odReader_term, .func (PySem.W.fnOf "term" "Reader.term" (defArgs s_Reader_term) (defBody s_Reader_term) (defScope s_Reader_term) .none kVReader_term dcReader_term pmReader_term anReader_term cdReader_term ctReader_term), slReader_term⟩)
    (cReader_term : PySem.W.codeIn K cdReader_term "Reader.term" = true)
    (kReader_term : PySem.W.keepIn K (.ref fReader_term) = true)
    (iReader_term : PySem.W.isFn K (.ref fReader_term) = true)
    (aReader_power : PySem.W.findIn K (.ref cReader) "power" = some (some (.ref fReader_power)))
    (lReader_power : K.lookup fReader_power = some ⟨ocReader_power, odReader_power, .func (PySem.W.fnOf "power" "Reader.power" (defArgs s_Reader_power) (defBody s_Reader_power) (defScope s_Reader_power) .none kVReader_power dcReader_power pmReader_power anReader_power cdReader_power ctReader_power), slReader_power⟩)
    (cReader_power : PySem.W.codeIn K cdReader_power "Reader.power" = true)
    (kReader_power : PySem.W.keepIn K (.ref fReader_power) = true)
    (iReader_power : PySem.W.isFn K (.ref fReader_power) = true)
    (atwo_terms : PySem.W.nsIn K mainGlobals "two_terms" = some (some (.ref ftwo_terms)))
    (ltwo_terms : K.lookup ftwo_terms = some ⟨octwo_terms, odtwo_terms, .func (PySem.W.fnOf "two_terms" "two_terms" (defArgs s_two_terms) (defBody s_two_terms) (defScope s_two_terms) .none kVtwo_terms dctwo_terms pmtwo_terms antwo_terms cdtwo_terms cttwo_terms), sltwo_terms⟩)
    (ctwo_terms : PySem.W.codeIn K cdtwo_terms "two_terms" = true)
    (ktwo_terms : PySem.W.keepIn K (.ref ftwo_terms) = true)
    (anames_in : PySem.W.nsIn K mainGlobals "names_in" = some (some (.ref fnames_in)))
    (lnames_in : K.lookup fnames_in = some ⟨ocnames_in, odnames_in, .func (PySem.W.fnOf "names_in" "names_in" (defArgs s_names_in) (defBody s_names_in) (defScope s_names_in) .none kVnames_in dcnames_in pmnames_in annames_in cdnames_in ctnames_in), slnames_in⟩)
    (cnames_in : PySem.W.codeIn K cdnames_in "names_in" = true)
    (knames_in : PySem.W.keepIn K (.ref fnames_in) = true)
    (aread_identity : PySem.W.nsIn K mainGlobals "read_identity" = some (some (.ref fread_identity)))
    (lread_identity : K.lookup fread_identity = some ⟨ocread_identity, odread_identity, .func (PySem.W.fnOf "read_identity" "read_identity" (defArgs s_read_identity) (defBody s_read_identity) (defScope s_read_identity) .none kVread_identity dcread_identity pmread_identity anread_identity cdread_identity ctread_identity), slread_identity⟩)
    (cread_identity : PySem.W.codeIn K cdread_identity "read_identity" = true)
    (kread_identity : PySem.W.keepIn K (.ref fread_identity) = true)
    (aL_said : PySem.W.nsIn K mainGlobals "_law_said" = some (some (.ref fL_said)))
    (lL_said : K.lookup fL_said = some ⟨ocL_said, odL_said, .func (PySem.W.fnOf "_law_said" "_law_said" (defArgs s_L_said) (defBody s_L_said) (defScope s_L_said) .none kVL_said dcL_said pmL_said anL_said cdL_said ctL_said), slL_said⟩)
    (cL_said : PySem.W.codeIn K cdL_said "_law_said" = true)
    (kL_said : PySem.W.keepIn K (.ref fL_said) = true)
    (aL_long_right : PySem.W.nsIn K mainGlobals "_law_long_right" = some (some (.ref fL_long_right)))
    (lL_long_right : K.lookup fL_long_right = some ⟨ocL_long_right, odL_long_right, .func (PySem.W.fnOf "_law_long_right" "_law_long_right" (defArgs s_L_long_right) (defBody s_L_long_right) (defScope s_L_long_right) .none kVL_long_right dcL_long_right pmL_long_right anL_long_right cdL_long_right ctL_long_right), slL_long_right⟩)
    (cL_long_right : PySem.W.codeIn K cdL_long_right "_law_long_right" = true)
    (kL_long_right : PySem.W.keepIn K (.ref fL_long_right) = true)
    (aL_source : PySem.W.nsIn K mainGlobals "_law_source" = some (some (.ref fL_source)))
    (lL_source : K.lookup fL_source = some ⟨ocL_source, odL_source, .func (PySem.W.fnOf "_law_source" "_law_source" (defArgs s_L_source) (defBody s_L_source) (defScope s_L_source) .none kVL_source dcL_source pmL_source anL_source cdL_source ctL_source), slL_source⟩)
    (cL_source : PySem.W.codeIn K cdL_source "_law_source" = true)
    (kL_source : PySem.W.keepIn K (.ref fL_source) = true)
    (aL_draw : PySem.W.nsIn K mainGlobals "_law_draw" = some (some (.ref fL_draw)))
    (lL_draw : K.lookup fL_draw = some ⟨ocL_draw, odL_draw, .func (PySem.W.fnOf "_law_draw" "_law_draw" (defArgs s_L_draw) (defBody s_L_draw) (defScope s_L_draw) .none kVL_draw dcL_draw pmL_draw anL_draw cdL_draw ctL_draw), slL_draw⟩)
    (cL_draw : PySem.W.codeIn K cdL_draw "_law_draw" = true)
    (kL_draw : PySem.W.keepIn K (.ref fL_draw) = true)
    (aL_pick : PySem.W.nsIn K mainGlobals "_law_pick" = some (some (.ref fL_pick)))
    (lL_pick : K.lookup fL_pick = some ⟨ocL_pick, odL_pick, .func (PySem.W.fnOf "_law_pick" "_law_pick" (defArgs s_L_pick) (defBody s_L_pick) (defScope s_L_pick) .none kVL_pick dcL_pick pmL_pick anL_pick cdL_pick ctL_pick), slL_pick⟩)
    (cL_pick : PySem.W.codeIn K cdL_pick "_law_pick" = true)
    (kL_pick : PySem.W.keepIn K (.ref fL_pick) = true)
    (aL_term : PySem.W.nsIn K mainGlobals "_law_term" = some (some (.ref fL_term)))
    (lL_term : K.lookup fL_term = some ⟨ocL_term, odL_term, .func (PySem.W.fnOf "_law_term" "_law_term" (defArgs s_L_term) (defBody s_L_term) (defScope s_L_term) .none kVL_term dcL_term pmL_term anL_term cdL_term ctL_term), slL_term⟩)
    (cL_term : PySem.W.codeIn K cdL_term "_law_term" = true)
    (kL_term : PySem.W.keepIn K (.ref fL_term) = true)
    (aL_is_open : PySem.W.nsIn K mainGlobals "_law_is_open" = some (some (.ref fL_is_open)))
    (lL_is_open : K.lookup fL_is_open = some ⟨ocL_is_open, odL_is_open, .func (PySem.W.fnOf "_law_is_open" "_law_is_open" (defArgs s_L_is_open) (defBody s_L_is_open) (defScope s_L_is_open) .none kVL_is_open dcL_is_open pmL_is_open anL_is_open cdL_is_open ctL_is_open), slL_is_open⟩)
    (cL_is_open : PySem.W.codeIn K cdL_is_open "_law_is_open" = true)
    (kL_is_open : PySem.W.keepIn K (.ref fL_is_open) = true)
    (aL_fault : PySem.W.nsIn K mainGlobals "_law_fault" = some (some (.ref fL_fault)))
    (lL_fault : K.lookup fL_fault = some ⟨ocL_fault, odL_fault, .func (PySem.W.fnOf "_law_fault" "_law_fault" (defArgs s_L_fault) (defBody s_L_fault) (defScope s_L_fault) .none kVL_fault dcL_fault pmL_fault anL_fault cdL_fault ctL_fault), slL_fault⟩)
    (cL_fault : PySem.W.codeIn K cdL_fault "_law_fault" = true)
    (kL_fault : PySem.W.keepIn K (.ref fL_fault) = true)
    (aL_due : PySem.W.nsIn K mainGlobals "_law_due" = some (some (.ref fL_due)))
    (lL_due : K.lookup fL_due = some ⟨ocL_due, odL_due, .func (PySem.W.fnOf "_law_due" "_law_due" (defArgs s_L_due) (defBody s_L_due) (defScope s_L_due) .none kVL_due dcL_due pmL_due anL_due cdL_due ctL_due), slL_due⟩)
    (cL_due : PySem.W.codeIn K cdL_due "_law_due" = true)
    (kL_due : PySem.W.keepIn K (.ref fL_due) = true)
    (aL_right : PySem.W.nsIn K mainGlobals "_law_right" = some (some (.ref fL_right)))
    (lL_right : K.lookup fL_right = some ⟨ocL_right, odL_right, .func (PySem.W.fnOf "_law_right" "_law_right" (defArgs s_L_right) (defBody s_L_right) (defScope s_L_right) .none kVL_right dcL_right pmL_right anL_right cdL_right ctL_right), slL_right⟩)
    (cL_right : PySem.W.codeIn K cdL_right "_law_right" = true)
    (kL_right : PySem.W.keepIn K (.ref fL_right) = true)
    (alaw : PySem.W.nsIn K mainGlobals "law" = some (some (.ref flaw)))
    (llaw : K.lookup flaw = some ⟨oclaw, odlaw, .func (PySem.W.fnOf "law" "law" (defArgs s_law) (defBody s_law) (defScope s_law) .none kVlaw dclaw pmlaw anlaw cdlaw ctlaw), sllaw⟩)
    (claw : PySem.W.codeIn K cdlaw "law" = true)
    (klaw : PySem.W.keepIn K (.ref flaw) = true)
    (pgReader : PySem.W.plainGet K cReader Str.empty = true)
    (hdReader : PySem.W.hasDictIn K cReader = true)
    (poReader : PySem.W.plainOver K cReader = true)
    (saReader : PySem.W.findIn K (.ref cReader) "__setattr__" = some (some (.builtin "object.__setattr__")))
    (nReader0 : PySem.W.findIn K (.ref cReader) "spot" = some none)
    (nReader1 : PySem.W.findIn K (.ref cReader) "text" = some none)
    (aNoTerm_init : PySem.W.findIn K (.ref cNoTerm) "__init__" = some (some (.ref fNoTerm_init)))
    (lNoTerm_init : K.lookup fNoTerm_init = some ⟨ocNoTerm_init, odNoTerm_init, .func (PySem.W.fnOf "__init__" "NoTerm.__init__" (defArgs s_NoTerm_init) (defBody s_NoTerm_init) (defScope s_NoTerm_init) .none kVNoTerm_init dcNoTerm_init pmNoTerm_init anNoTerm_init cdNoTerm_init ctNoTerm_init), slNoTerm_init⟩)
    (cNoTerm_init : PySem.W.codeIn K cdNoTerm_init "NoTerm.__init__" = true)
    (kNoTerm_init : PySem.W.keepIn K (.ref fNoTerm_init) = true)
    (xlNoTerm : K.lookup cNoTerm = some (excClassObj nmNoTerm qNoTerm cNoTerm NNoTerm bsNoTerm bmNoTerm true snNoTerm subNoTerm abNoTerm colNoTerm ddNoTerm m0NoTerm m1NoTerm m2NoTerm m3NoTerm m5NoTerm "ValueError.__new__"))
    (xbNoTerm : PySem.HandSPX.refsVE bmNoTerm = true)
    (saNoTerm : PySem.W.findIn K (.ref cNoTerm) "__setattr__" = some (some (.builtin "object.__setattr__")))
    (gaNoTerm : PySem.W.findIn K (.ref cNoTerm) "__getattribute__" = some (some (.builtin "BaseException.__getattribute__")))
    (gtNoTerm : PySem.W.findIn K (.ref cNoTerm) "__getattr__" = some none)
    (eNoTerm : PySem.W.subIn K (.ref cNoTerm) (.type "BaseException") = some true)
    (tNoTerm : PySem.W.typeIn K (.ref cNoTerm) = some (.type "type"))
    (kcNoTerm : PySem.W.keepIn K (.ref cNoTerm) = true)
    (hdNoTerm : PySem.W.hasDictIn K cNoTerm = true)
    (tiNoTerm : PySem.W.typeIn K (.ref fNoTerm_init) = some (.type "function"))
    (nNoTerm0 : PySem.W.findIn K (.ref cNoTerm) "place" = some none)
    (eFoldError : PySem.W.subIn K (.ref cFoldError) (.type "BaseException") = some true)
    (tFoldError : PySem.W.typeIn K (.ref cFoldError) = some (.type "type"))
    (icFoldError : PySem.W.isClsIn K cFoldError = true)
    (icNoTerm : PySem.W.isClsIn K cNoTerm = true)
    (sNoTerm_FoldError : PySem.W.subIn K (.ref cNoTerm) (.ref cFoldError) = some true)
    (sNoTerm_NoTerm : PySem.W.subIn K (.ref cNoTerm) (.ref cNoTerm) = some true)
    (gMOST_TEXT : PySem.W.nsIn K mainGlobals "MOST_TEXT" = some (some (.int 200 tMOST_TEXT)))
    (gNAMES : PySem.W.nsIn K mainGlobals "NAMES" = some (some (.str "wxyz" tNAMES)))
    (zabs : PySem.W.nsIn K mainGlobals "abs" = some none)
    (zenumerate : PySem.W.nsIn K mainGlobals "enumerate" = some none)
    (zint : PySem.W.nsIn K mainGlobals "int" = some none)
    (zisinstance : PySem.W.nsIn K mainGlobals "isinstance" = some none)
    (zlen : PySem.W.nsIn K mainGlobals "len" = some none)
    (zrange : PySem.W.nsIn K mainGlobals "range" = some none)
    (zstr : PySem.W.nsIn K mainGlobals "str" = some none)
    (ztuple : PySem.W.nsIn K mainGlobals "tuple" = some none)
    : ∃ (g : Zed.G) (fd : FuncData), g.K = K ∧ (∀ (s : Shared) (u : Value), BindsTo s fd ⟨[u], []⟩ [("_law_script", u)]) ∧ ∀ base : Heap, FnZ P w g.K mg base 608 fa fd ["_law_script"] (spZ g 1 F_law) := by
  have e := hfa.symm.trans (PySem.W.mg_of X G alaw)
  cases e
  have T : Tx K mg { cFoldError := cFoldError, cNoTerm := cNoTerm, cReader := cReader, fReader_init := fReader_init, fReader_sign := fReader_sign, fReader_demand := fReader_demand, fReader_is_factor := fReader_is_factor, fReader_term := fReader_term, fReader_power := fReader_power, ftwo_terms := ftwo_terms, fnames_in := fnames_in, fread_identity := fread_identity, fL_said := fL_said, fL_long_right := fL_long_right, fL_source := fL_source, fL_draw := fL_draw, fL_pick := fL_pick, fL_term := fL_term, fL_is_open := fL_is_open, fL_fault := fL_fault, fL_due := fL_due, fL_right := fL_right, flaw := fa, fNoTerm_init := fNoTerm_init } := {
    m_FoldError := PySem.W.mg_of X G AFoldError,
    m_NoTerm := PySem.W.mg_of X G ANoTerm,
    m_Reader := PySem.W.mg_of X G AReader,
    F_Reader_init := ⟨_, fun_mk (st := s_Reader_init) lReader_init cReader_init kReader_init⟩,
    mk_Reader := ⟨mkReader, aReader_init, iReader_init, kcReader⟩,
    F_Reader_sign := ⟨_, fun_mk (st := s_Reader_sign) lReader_sign cReader_sign kReader_sign⟩,
    me_Reader_sign := ⟨aReader_sign, iReader_sign, kReader_sign⟩,
    F_Reader_demand := ⟨_, fun_mk (st := s_Reader_demand) lReader_demand cReader_demand kReader_demand⟩,
    me_Reader_demand := ⟨aReader_demand, iReader_demand, kReader_demand⟩,
    F_Reader_is_factor := ⟨_, fun_mk (st := s_Reader_is_factor) lReader_is_factor cReader_is_factor kReader_is_factor⟩,
    me_Reader_is_factor := ⟨aReader_is_factor, iReader_is_factor, kReader_is_factor⟩,
    F_Reader_term := ⟨_, fun_mk (st := s_Reader_term) lReader_term cReader_term kReader_term⟩,
    me_Reader_term := ⟨aReader_term, iReader_term, kReader_term⟩,
    F_Reader_power := ⟨_, fun_mk (st := s_Reader_power) lReader_power cReader_power kReader_power⟩,
    me_Reader_power := ⟨aReader_power, iReader_power, kReader_power⟩,
    F_two_terms := ⟨_, fun_mk (st := s_two_terms) ltwo_terms ctwo_terms ktwo_terms⟩,
    m_two_terms := PySem.W.mg_of X G atwo_terms,
    F_names_in := ⟨_, fun_mk (st := s_names_in) lnames_in cnames_in knames_in⟩,
    m_names_in := PySem.W.mg_of X G anames_in,
    F_read_identity := ⟨_, fun_mk (st := s_read_identity) lread_identity cread_identity kread_identity⟩,
    m_read_identity := PySem.W.mg_of X G aread_identity,
    F_L_said := ⟨_, fun_mk (st := s_L_said) lL_said cL_said kL_said⟩,
    m_L_said := PySem.W.mg_of X G aL_said,
    F_L_long_right := ⟨_, fun_mk (st := s_L_long_right) lL_long_right cL_long_right kL_long_right⟩,
    m_L_long_right := PySem.W.mg_of X G aL_long_right,
    F_L_source := ⟨_, fun_mk (st := s_L_source) lL_source cL_source kL_source⟩,
    m_L_source := PySem.W.mg_of X G aL_source,
    F_L_draw := ⟨_, fun_mk (st := s_L_draw) lL_draw cL_draw kL_draw⟩,
    m_L_draw := PySem.W.mg_of X G aL_draw,
    F_L_pick := ⟨_, fun_mk (st := s_L_pick) lL_pick cL_pick kL_pick⟩,
    m_L_pick := PySem.W.mg_of X G aL_pick,
    F_L_term := ⟨_, fun_mk (st := s_L_term) lL_term cL_term kL_term⟩,
    m_L_term := PySem.W.mg_of X G aL_term,
    F_L_is_open := ⟨_, fun_mk (st := s_L_is_open) lL_is_open cL_is_open kL_is_open⟩,
    m_L_is_open := PySem.W.mg_of X G aL_is_open,
    F_L_fault := ⟨_, fun_mk (st := s_L_fault) lL_fault cL_fault kL_fault⟩,
    m_L_fault := PySem.W.mg_of X G aL_fault,
    F_L_due := ⟨_, fun_mk (st := s_L_due) lL_due cL_due kL_due⟩,
    m_L_due := PySem.W.mg_of X G aL_due,
    F_L_right := ⟨_, fun_mk (st := s_L_right) lL_right cL_right kL_right⟩,
    m_L_right := PySem.W.mg_of X G aL_right,
    F_law := ⟨_, fun_mk (st := s_law) llaw claw klaw⟩,
    m_law := PySem.W.mg_of X G alaw,
    cl_Reader := ⟨pgReader, hdReader, poReader, saReader⟩,
    na_Reader := ⟨nReader0, nReader1, trivial⟩,
    F_NoTerm_init := ⟨_, fun_mk (st := s_NoTerm_init) lNoTerm_init cNoTerm_init kNoTerm_init⟩,
    ox_NoTerm := { cls := ⟨_, _, _, _, _, _, _, _, _, _, _, _, _, _, _, xlNoTerm, xbNoTerm⟩, sa := saNoTerm, exC := eNoTerm, tyC := tNoTerm, kC := kcNoTerm },
    xc_NoTerm := { ga := gaNoTerm, gg := gtNoTerm, exC := eNoTerm, hdC := hdNoTerm },
    na_NoTerm := ⟨nNoTerm0, trivial⟩,
    in_NoTerm := ⟨aNoTerm_init, tiNoTerm⟩,
    x_NoTerm_FoldError := exm_of eFoldError icFoldError tFoldError sNoTerm_FoldError,
    x_NoTerm_NoTerm := exm_of eNoTerm icNoTerm tNoTerm sNoTerm_NoTerm,
    g_MOST_TEXT := ⟨_, PySem.W.mg_of X G gMOST_TEXT⟩,
    g_NAMES := ⟨_, PySem.W.mg_of X G gNAMES⟩,
    n_abs := PySem.W.mg_none_of X G zabs,
    n_enumerate := PySem.W.mg_none_of X G zenumerate,
    n_int := PySem.W.mg_none_of X G zint,
    n_isinstance := PySem.W.mg_none_of X G zisinstance,
    n_len := PySem.W.mg_none_of X G zlen,
    n_range := PySem.W.mg_none_of X G zrange,
    n_str := PySem.W.mg_none_of X G zstr,
    n_tuple := PySem.W.mg_none_of X G ztuple }
  exact ⟨gg K _, PySem.W.fnOf "law" "law" (defArgs s_law) (defBody s_law) (defScope s_law) .none kVlaw dclaw pmlaw anlaw cdlaw ctlaw, rfl, fun s u => .of_eq rfl, fun base => z_law T (fun_mk llaw claw klaw)⟩
end Lw


set_option maxHeartbeats 200000
namespace Lw
open PySem PySem.Spec Zed
abbrev tx (l : List Nat) : Str := ⟨l.toArray⟩
theorem str_tx (s : Str) : s = tx s.cps.toList := by cases s; simp
theorem tx_len (l : List Nat) : (tx l).length = l.length := by simp [Str.length]
theorem tx_app (a b : List Nat) : tx a ++ tx b = tx (a ++ b) := by
  show (⟨a.toArray ++ b.toArray⟩ : Str) = _
  simp
theorem tx_inj {a b : List Nat} : tx a = tx b ↔ a = b := ⟨fun h => by injection h with h; simpa using h, fun h => by rw [h]⟩
theorem eqv_s (a b : List Nat) : PyData.eqv (.str (tx a)) (.str (tx b)) = decide (a = b) := by
  show (tx a == tx b) = _
  by_cases h : a = b
  · simp [h]
  · have : tx a ≠ tx b := fun e => h (tx_inj.mp e)
    simp [h, this]
theorem small {n : Nat} (h : n ≤ 1000) : n ≤ sizeLine := by rw [sizeLine_eq]; omega
theorem eqZ_s (a b : List Nat) (A : ZH) : eqZ (.str (tx a)) (.str (tx b)) A = .ok (.bl (decide (a = b))) A := by
  show R.ok (Z.bl (PyData.eqv _ _)) A = _
  rw [eqv_s]
theorem neZ_s (a b : List Nat) (A : ZH) : neZ (.str (tx a)) (.str (tx b)) A = .ok (.bl (!decide (a = b))) A := by
  show R.ok (Z.bl (!PyData.eqv _ _)) A = _
  rw [eqv_s]
-- the literals
theorem s_w : (Str.ofString "w") = tx [119] := by decide +kernel
theorem s_x : (Str.ofString "x") = tx [120] := by decide +kernel
theorem s_y : (Str.ofString "y") = tx [121] := by decide +kernel
theorem s_z : (Str.ofString "z") = tx [122] := by decide +kernel
theorem s_wxyz : (Str.ofString "wxyz") = tx [119, 120, 121, 122] := by decide +kernel
theorem s_lp : (Str.ofString "(") = tx [40] := by decide +kernel
theorem s_rp : (Str.ofString ")") = tx [41] := by decide +kernel
theorem s_e : (Str.ofString "") = tx [] := by decide +kernel
theorem s_1 : (Str.ofString "1") = tx [49] := by decide +kernel
theorem s_eq : (Str.ofString "=") = tx [61] := by decide +kernel
theorem s_st : (Str.ofString "^~") = tx [94, 126] := by decide +kernel
theorem s_hat : (Str.ofString "^") = tx [94] := by decide +kernel
/-- a reader at r over l, at place p -/
structure Rdr (A : ZH) (r : Nat) (l : List Nat) (p : Nat) : Prop where
  lt : r < A.n
  at_ : A.get r = some (.ins 2 [some (.int (p : Nat)), some (.str (tx l))])
theorem lk2 {β : Type} (c : Nat) (x : β) : List.lookup c [(c, x)] = some x := by simp [List.lookup]
theorem cut1 {l : List Nat} {p : Nat} : L2.cutS (tx l) (some (p : Nat)) (some ((p : Int) + 1)) = tx ((l.drop p).take 1) := by
  unfold L2.cutS
  have e : ((p : Int) + 1) = ((p + 1 : Nat) : Int) := by omega
  rw [e, HT.sIx_nat, HT.sIx_nat, tx_len]
  congr 1
  by_cases h : p < l.length
  · rw [Nat.min_eq_left (by omega), Nat.min_eq_left (by omega)]
    simp
  · rw [Nat.min_eq_right (by omega), Nat.min_eq_right (by omega)]
    simp
    omega
theorem sign_is {A : ZH} {r p : Nat} {l : List Nat} (h : Rdr A r l p) (hl : l.length ≤ 200) : F_Reader_sign [.ref r] A = .ok (.str (tx ((l.drop p).take 1))) A := by
  have h0 := h.at_
  have hs := small (n := l.length) (by omega)
  simp [F_Reader_sign, runD, b_Reader_sign, dFld, ft_text, ft_spot, h0, List.lookup, getF, tx_len, hs]
  exact cut1
/-- the first sign of what is left -/
def fac : List Nat → Bool
  | c :: _ => decide (c ∈ [119, 120, 121, 122, 40])
  | [] => false
theorem factor_is {A : ZH} {r p : Nat} {l : List Nat} (h : Rdr A r l p) (hl : l.length ≤ 200) : F_Reader_is_factor [.ref r] A = .ok (.bl (fac (l.drop p))) A := by
  have h0 := h.at_
  have sg := sign_is h hl
  generalize l.drop p = u at sg ⊢
  have e : tx [119, 120, 121, 122] ++ tx [40] = tx [119, 120, 121, 122, 40] := tx_app _ _
  have e2 : (tx [119, 120, 121, 122]).length + (tx [40]).length ≤ sizeLine := by rw [tx_len, tx_len]; exact small (by decide)
  cases u with
  | nil => simp [F_Reader_is_factor, runD, b_Reader_is_factor, dMeth, h0, List.lookup, sg, s_e, neZ_s, fac]
  | cons c u =>
    simp only [List.take_succ_cons, List.take_zero] at sg
    simp [F_Reader_is_factor, runD, b_Reader_is_factor, dMeth, h0, List.lookup, sg, s_e, neZ_s, s_wxyz, s_lp, e, e2, v_inS, fac]
def step1 (A : ZH) (r : Nat) (l : List Nat) (p : Nat) : ZH := A.set r (.ins 2 [some (.int ((p : Int) + 1)), some (.str (tx l))])
theorem step1_rd {A : ZH} {r p : Nat} {l : List Nat} (h : Rdr A r l p) : Rdr (step1 A r l p) r l (p + 1) := by
  refine ⟨h.lt, ?_⟩
  unfold step1
  rw [ZH.get_set_same]
  simp
theorem demand_is {A : ZH} {r p c : Nat} {l : List Nat} (h : Rdr A r l p) (hl : l.length ≤ 200) : F_Reader_demand [.ref r, .str (tx [c])] A = if (l.drop p).head? = some c then .ok .non (step1 A r l p) else .ex (1, [some (.int (p : Nat))]) A := by
  have h0 := h.at_
  have sg := sign_is h hl
  generalize l.drop p = u at sg ⊢
  cases u with
  | nil => simp [F_Reader_demand, runD, b_Reader_demand, dMeth, h0, List.lookup, sg, neZ_s, ft_spot, dFld, dSetFld, getF, setF]
  | cons a u =>
    simp only [List.take_succ_cons, List.take_zero] at sg
    by_cases e : a = c
    · subst e
      simp [F_Reader_demand, runD, b_Reader_demand, dMeth, h0, List.lookup, sg, neZ_s, ft_spot, dFld, dSetFld, getF, setF, step1]
    · simp [F_Reader_demand, runD, b_Reader_demand, dMeth, h0, List.lookup, sg, neZ_s, ft_spot, dFld, dSetFld, getF, setF, e]
/-- what stays: all but r -/
structure Kp (r : Nat) (A A' : ZH) : Prop where
  le : A.n ≤ A'.n
  same : ∀ j, j < A.n → j ≠ r → A'.get j = A.get j
theorem Kp.refl (r : Nat) (A : ZH) : Kp r A A := ⟨Nat.le_refl _, fun _ _ _ => rfl⟩
theorem Kp.trans {r : Nat} {A B C : ZH} (h : Kp r A B) (k : Kp r B C) : Kp r A C := ⟨Nat.le_trans h.le k.le, fun j hj hr => (k.same j (Nat.lt_of_lt_of_le hj h.le) hr).trans (h.same j hj hr)⟩
theorem Kp.set {r : Nat} {A : ZH} (o : ZO) : Kp r A (A.set r o) := ⟨by simp, fun j hj hr => ZH.get_set_ne A o hr⟩
theorem Kp.new {r m : Nat} {A B : ZH} {o : ZO} (h : Kp r A B) (hm : A.n ≤ m) : Kp r A (B.set m o) := ⟨by simpa using h.le, fun j hj hr => (ZH.get_set_ne B o (by omega)).trans (h.same j hj hr)⟩
theorem Kp.push {r : Nat} {A : ZH} (o : ZO) : Kp r A (A.push o) := ⟨by simp, fun j hj _ => ZH.get_push_lt A o hj⟩
theorem Rdr.push {A : ZH} {r p : Nat} {l : List Nat} (h : Rdr A r l p) (o : ZO) : Rdr (A.push o) r l p := ⟨by have := h.lt; simp; omega, by rw [ZH.get_push_lt A o h.lt]; exact h.at_⟩
theorem Rdr.set {A : ZH} {r p m : Nat} {l : List Nat} (h : Rdr A r l p) (o : ZO) (hm : m ≠ r) : Rdr (A.set m o) r l p := ⟨by simpa using h.lt, by rw [ZH.get_set_ne A o (Ne.symm hm)]; exact h.at_⟩
/-- the law's look at each sign -/
inductive Md where
  | bg | one | fc
  deriving DecidableEq
def opn (m : Md) (d : Nat) (s : Bool) (c : Nat) : Bool := match m with
  | .bg => decide (c ∈ [49, 119, 120, 121, 122, 40])
  | m => if c = 41 then decide (0 < d) else if c = 61 then decide (d = 0) && !s else decide (m = .fc) && decide (c ∈ [119, 120, 121, 122, 40, 94, 126])
def nxt (m : Md) (d : Nat) (s : Bool) (c : Nat) : Md × Nat × Bool :=
  if c = 40 then (.bg, d + 1, s) else if c = 61 then (.bg, d, true) else if c = 41 then (.fc, d - 1, s) else if m = .bg then (if c = 49 then .one else .fc, d, s) else if c ∈ [119, 120, 121, 122] then (.fc, d, s) else (m, d, s)
def auto : Md → Nat → Bool → List Nat → Nat → Option Nat
  | m, d, s, [], i => if (s && decide (d = 0) && !decide (m = .bg)) = true then none else some i
  | m, d, s, c :: u, i => if opn m d s c = true then auto (nxt m d s c).1 (nxt m d s c).2.1 (nxt m d s c).2.2 u (i + 1) else some i
/-- no factor and no sign behind one begins here -/
def stop : List Nat → Prop
  | c :: _ => c ∉ [119, 120, 121, 122, 40, 94, 126]
  | [] => True
def stopS : List Nat → Prop
  | c :: _ => c ∉ [94, 126]
  | [] => True
/-- the signs w, x, y, z among what was read are those among the tokens -/
def Same (ts : List Str) (w : List Nat) : Prop := ∀ c ∈ [119, 120, 121, 122], tx [c] ∈ ts ↔ c ∈ w
theorem Same.nil : Same [] [] := fun c _ => by simp
theorem Same.app {ts us : List Str} {w v : List Nat} (h : Same ts w) (k : Same us v) : Same (ts ++ us) (w ++ v) := fun c hc => by
  rw [List.mem_append, List.mem_append, h c hc, k c hc]
/-- an end by an error at v: the look finds its fault there -/
def Bad (m : Md) (u v : List Nat) : Prop := ∀ d s i, auto m d s u i = some (i + (u.length - v.length))
structure Good (m m' : Md) (u w v : List Nat) (ts : List Str) : Prop where
  eq : u = w ++ v
  on : ∀ d s i, auto m d s u i = auto m' d s v (i + w.length)
  same : Same ts w
  few : ts.length ≤ 2 * w.length
end Lw

namespace Lw
open PySem PySem.Spec Zed
abbrev pT : DT := dAnd (dTst (dBin neZ (dMeth [(2, F_Reader_sign)] (dVar 0) dNil []) (dC (.str "")))) (dTst (dBin inV' (dMeth [(2, F_Reader_sign)] (dVar 0) dNil []) (dC (.str "^~"))))
abbrev pB : DS := dSeq (dExp (dBM isL appZ (dVar 1) (dCons (dIf (dTst (dBin eqZ (dMeth [(2, F_Reader_sign)] (dVar 0) dNil []) (dC (.str "^")))) (dC (.str "omega")) (dC (.str "less"))) dNil))) (dSetFld ft_spot (dVar 0) (dBin addZ (dFld ft_spot (dVar 0)) (dC (.int 1))))
theorem lt1000 {n : Nat} (h : n < 1000) : n < sizeLine := by rw [sizeLine_eq]; omega
theorem stars_is : ∀ (u : List Nat) {A : ZH} {r p m n : Nat} {l : List Nat} {zs : List Z}, Rdr A r l p → l.length ≤ 200 → l.drop p = u → A.get m = some (.lst zs) → m ≠ r → zs.length + u.length < 1000 → u.length < n →
    ∃ (w v : List Nat) (ts : List Str) (A' : ZH), dWhl pT pB n [.va (.ref r), .va (.ref m)] A = .nx [.va (.ref r), .va (.ref m)] A' ∧ u = w ++ v ∧ stopS v ∧ (∀ c ∈ w, c = 94 ∨ c = 126) ∧ ts.length = w.length ∧ (∀ t ∈ ts, t = "omega" ∨ t = "less") ∧
      Rdr A' r l (p + w.length) ∧ A'.get m = some (.lst (zs ++ ts.map Z.str)) ∧ A'.n = A.n ∧ ∀ j, j ≠ r → j ≠ m → A'.get j = A.get j
  | [], A, r, p, m, n, l, zs, h, hl, hu, hm, hne, hz, hn => by
    have h0 := h.at_
    have sg := sign_is h hl
    rw [hu] at sg
    obtain ⟨n, rfl⟩ : ∃ k, n = k + 1 := ⟨n - 1, by omega⟩
    refine ⟨[], [], [], A, ?_, rfl, trivial, by simp, rfl, by simp, by simpa using h, by simpa using hm, rfl, fun _ _ _ => rfl⟩
    unfold dWhl
    simp [h0, List.lookup, sg, s_e, neZ_s]
  | c :: u, A, r, p, m, n, l, zs, h, hl, hu, hm, hne, hz, hn => by
    have h0 := h.at_
    have sg := sign_is h hl
    rw [hu] at sg
    simp only [List.take_succ_cons, List.take_zero] at sg
    obtain ⟨n, rfl⟩ : ∃ k, n = k + 1 := ⟨n - 1, by omega⟩
    by_cases hc : c = 94 ∨ c = 126
    · have hz1 : zs.length < sizeLine := lt1000 (by omega)
      have hu1 : l.drop (p + 1) = u := by rw [← List.drop_drop, hu]; rfl
      let t : Str := if c = 94 then "omega" else "less"
      have h1 := h.set (.lst (zs ++ [.str t])) hne
      have sg1 := sign_is h1 hl
      have h2 := step1_rd h1
      have hm2 : (step1 (A.set m (.lst (zs ++ [.str t]))) r l p).get m = some (.lst (zs ++ [.str t])) := by
        unfold step1
        rw [ZH.get_set_ne _ _ hne, ZH.get_set_same]
      obtain ⟨w, v, ts, A', e1, e2, e3, e4, e5, e6, e7, e8, e9, e10⟩ := stars_is u (n := n) h2 hl hu1 hm2 hne (by simp at hz ⊢; omega) (by simp at hn; omega)
      refine ⟨c :: w, v, t :: ts, A', ?_, by rw [e2]; rfl, e3, ?_, by simp [e5], ?_, ?_, ?_, ?_, ?_⟩
      · unfold dWhl
        rcases hc with rfl | rfl
        · simp [h0, List.lookup, sg, s_e, neZ_s, eqZ_s, s_st, v_inS, s_hat, hm, hz1, ft_spot, getF, setF, ZH.get_set_ne _ _ (Ne.symm hne)]
          exact e1
        · simp [h0, List.lookup, sg, s_e, neZ_s, eqZ_s, s_st, v_inS, s_hat, hm, hz1, ft_spot, getF, setF, ZH.get_set_ne _ _ (Ne.symm hne)]
          exact e1
      · intro x hx
        rcases List.mem_cons.mp hx with e | e
        · rw [e]; exact hc
        · exact e4 x e
      · intro x hx
        rcases List.mem_cons.mp hx with e | e
        · rw [e]
          show (if c = 94 then ("omega" : Str) else "less") = _ ∨ (if c = 94 then ("omega" : Str) else "less") = _
          split
          · exact .inl rfl
          · exact .inr rfl
        · exact e6 x e
      · have ea : p + 1 + w.length = p + (c :: w).length := by simp; omega
        rw [ea] at e7
        exact e7
      · rw [e8]; simp
      · rw [e9]; simp [step1]
      · intro j hr hj
        rw [e10 j hr hj]
        unfold step1
        rw [ZH.get_set_ne _ _ hr, ZH.get_set_ne _ _ hj]
    · refine ⟨[], c :: u, [], A, ?_, rfl, by simpa [stopS] using hc, by simp, rfl, by simp, by simpa using h, by simpa using hm, rfl, fun _ _ _ => rfl⟩
      unfold dWhl
      simp [h0, List.lookup, sg, s_e, neZ_s, s_st, v_inS, hc]
end Lw

namespace Lw
open PySem PySem.Spec Zed
/-! what the look does at an end -/
theorem auto_halt {m : Md} {d i : Nat} {s : Bool} {v : List Nat} (hm : m ≠ .bg) (hs : m = .fc → stop v) (h1 : v.head? = some 41 → d = 0) (h2 : v.head? = some 61 → d = 0 → s = true) (h3 : v = [] → s = true → d ≠ 0) : auto m d s v i = some i := by
  cases v with
  | nil =>
    unfold auto
    cases s with
    | false => simp
    | true => simp [h3 rfl rfl]
  | cons c u =>
    unfold auto
    have e : opn m d s c = false := by
      cases m with
      | bg => exact absurd rfl hm
      | one =>
        unfold opn
        by_cases c1 : c = 41
        · subst c1; simp [h1 rfl]
        · by_cases c2 : c = 61
          · subst c2
            by_cases hd : d = 0
            · simp [hd, h2 rfl hd]
            · simp [hd]
          · simp [c1, c2]
      | fc =>
        have st := hs rfl
        unfold opn
        by_cases c1 : c = 41
        · subst c1; simp [h1 rfl]
        · by_cases c2 : c = 61
          · subst c2
            by_cases hd : d = 0
            · simp [hd, h2 rfl hd]
            · simp [hd]
          · have st : c ∉ [119, 120, 121, 122, 40, 94, 126] := st
            simp only [c1, c2, if_false]
            simp [st]
    rw [if_neg (by rw [e]; simp)]
theorem auto_rp {m : Md} {d i : Nat} {s : Bool} {v : List Nat} (hm : m ≠ .bg) : auto m (d + 1) s (41 :: v) i = auto .fc d s v (i + 1) := by
  cases m with
  | bg => exact absurd rfl hm
  | one => simp [auto, opn, nxt]
  | fc => simp [auto, opn, nxt]
theorem auto_lp {m : Md} {d i : Nat} {s : Bool} {v : List Nat} (hm : m ≠ .one) : auto m d s (40 :: v) i = auto .bg (d + 1) s v (i + 1) := by
  cases m with
  | one => exact absurd rfl hm
  | bg => simp [auto, opn, nxt]
  | fc => simp [auto, opn, nxt]
theorem auto_nm {m : Md} {c d i : Nat} {s : Bool} {v : List Nat} (hm : m ≠ .one) (hc : c ∈ [119, 120, 121, 122]) : auto m d s (c :: v) i = auto .fc d s v (i + 1) := by
  simp at hc
  cases m with
  | one => exact absurd rfl hm
  | bg => rcases hc with rfl | rfl | rfl | rfl <;> simp [auto, opn, nxt]
  | fc => rcases hc with rfl | rfl | rfl | rfl <;> simp [auto, opn, nxt]
theorem auto_st : ∀ {w : List Nat} {d i : Nat} {s : Bool} {v : List Nat}, (∀ c ∈ w, c = 94 ∨ c = 126) → auto .fc d s (w ++ v) i = auto .fc d s v (i + w.length)
  | [], d, i, s, v, _ => by simp
  | c :: w, d, i, s, v, h => by
    have ih := auto_st (w := w) (d := d) (i := i + 1) (s := s) (v := v) fun x hx => h x (List.mem_cons_of_mem _ hx)
    have e : auto .fc d s (c :: (w ++ v)) i = auto .fc d s (w ++ v) (i + 1) := by
      rcases h c List.mem_cons_self with rfl | rfl <;> simp [auto, opn, nxt]
    rw [List.cons_append, e, ih, List.length_cons]
    congr 1
    omega
theorem auto_one {d i : Nat} {s : Bool} {v : List Nat} : auto .bg d s (49 :: v) i = auto .one d s v (i + 1) := by simp [auto, opn, nxt]
/-! what term and power answer -/
structure TE (F : Fn) (A : ZH) (r : Nat) (l u : List Nat) (ms : Md → Prop) (v : List Nat) (A' : ZH) : Prop where
  eq : F [.ref r] A = .ex (1, [some (.int ((l.length - v.length : Nat) : Int))]) A'
  kp : Kp r A A'
  le : v.length ≤ u.length
  bad : ∀ m, ms m → Bad m u v
structure TG (F : Fn) (A : ZH) (r p : Nat) (l u : List Nat) (ms : Md → Prop) (m' : Md) (w v : List Nat) (ts : List Str) (m : Nat) (A' : ZH) : Prop where
  eq : F [.ref r] A = .ok (.ref m) A'
  lst : A'.get m = some (.lst (ts.map Z.str))
  ge : A.n ≤ m
  lt : m < A'.n
  kp : Kp r A A'
  rd : Rdr A' r l (p + w.length)
  good : ∀ m, ms m → Good m m' u w v ts
  few1 : ts.length + 1 ≤ 2 * w.length
def TermOk (F : Fn) (N : Nat) : Prop := ∀ ⦃A : ZH⦄ ⦃r p : Nat⦄ ⦃l u : List Nat⦄, Rdr A r l p → l.length ≤ 200 → p ≤ l.length → l.drop p = u → u.length ≤ N →
  (∃ v A', TE F A r l u (· = .bg) v A') ∨ ∃ m' w v ts m A', TG F A r p l u (· = .bg) m' w v ts m A' ∧ m' ≠ .bg ∧ (m' = .fc → stop v)
def PowOk (F : Fn) (N : Nat) : Prop := ∀ ⦃A : ZH⦄ ⦃r p : Nat⦄ ⦃l u : List Nat⦄, Rdr A r l p → l.length ≤ 200 → p ≤ l.length → l.drop p = u → u.length ≤ N → fac u = true →
  (∃ v A', TE F A r l u (· ≠ .one) v A') ∨ ∃ w v ts m A', TG F A r p l u (· ≠ .one) .fc w v ts m A' ∧ stopS v ∧ 0 < w.length
abbrev pX (fT : Fn) : DS := dIte (dTst (dBin eqZ (dMeth [(2, F_Reader_sign)] (dVar 0) dNil []) (dC (.str "(")))) (dSeq (dSetFld ft_spot (dVar 0) (dBin addZ (dFld ft_spot (dVar 0)) (dC (.int 1)))) (dSeq (dSet 1 (dMeth [(2, fT)] (dVar 0) dNil [])) (dExp (dMeth [(2, F_Reader_demand)] (dVar 0) (dCons (dC (.str ")")) dNil) [])))) (dSeq (dSet 1 (dLst (dCons (dMeth [(2, F_Reader_sign)] (dVar 0) dNil []) dNil))) (dSetFld ft_spot (dVar 0) (dBin addZ (dFld ft_spot (dVar 0)) (dC (.int 1)))))
theorem b_pow (fT fP : Fn) : b_Reader_power fT fP = dSeq (pX fT) (dSeq (dWhl pT pB big) (dRet (dVar 1))) := rfl
theorem pow_tail {fT fP : Fn} {A A1 A2 : ZH} {r m : Nat} (hX : pX fT [.va (.ref r), .un] A = .nx [.va (.ref r), .va (.ref m)] A1) (hW : dWhl pT pB big [.va (.ref r), .va (.ref m)] A1 = .nx [.va (.ref r), .va (.ref m)] A2) :
    runD 2 (b_Reader_power fT fP) [.ref r] A = .ok (.ref m) A2 := by
  rw [b_pow]
  show (match dSeq (pX fT) (dSeq (dWhl pT pB big) (dRet (dVar 1))) [.va (.ref r), .un] A with
    | .rt z A' => R.ok z A'
    | .nx _ A' => .ok .non A'
    | .ex x _ A' => .ex x A'
    | _ => .no) = _
  rw [q_seq, hX, RS.sq_nx, q_seq, hW, RS.sq_nx]
  rfl
theorem pow_ex {fT fP : Fn} {A A1 : ZH} {r : Nat} {x : ZX} {fr : Fr} (hX : pX fT [.va (.ref r), .un] A = .ex x fr A1) : runD 2 (b_Reader_power fT fP) [.ref r] A = .ex x A1 := by
  rw [b_pow]
  show (match dSeq (pX fT) (dSeq (dWhl pT pB big) (dRet (dVar 1))) [.va (.ref r), .un] A with
    | .rt z A' => R.ok z A'
    | .nx _ A' => .ok .non A'
    | .ex x _ A' => .ex x A'
    | _ => .no) = _
  rw [q_seq, hX]
  rfl
theorem no_names {w : List Nat} {ts : List Str} (h : ∀ c ∈ w, c = 94 ∨ c = 126) (k : ∀ t ∈ ts, t = "omega" ∨ t = "less") : Same ts w := fun c hc => by
  constructor
  · intro hm
    rcases k _ hm with e | e
    · have z := congrArg (fun s : Str => s.cps.size) e
      have z2 : (Str.ofString "omega").cps.size = 5 := by decide +kernel
      simp at z
      omega
    · have z := congrArg (fun s : Str => s.cps.size) e
      have z2 : (Str.ofString "less").cps.size = 4 := by decide +kernel
      simp at z
      omega
  · intro hm
    rcases h c hm with e | e <;> subst e <;> simp at hc
theorem same_skip {c : Nat} {ts : List Str} {w : List Nat} (hc : c ∉ [119, 120, 121, 122]) (h : Same ts w) : Same ts (c :: w) := fun x hx => by
  rw [h x hx, List.mem_cons]
  constructor
  · exact .inr
  · rintro (rfl | e)
    · exact absurd hx hc
    · exact e
theorem suf_len {l u : List Nat} {p : Nat} (hp : p ≤ l.length) (hu : l.drop p = u) : p = l.length - u.length := by
  rw [← hu, List.length_drop]
  omega
theorem suf_app {l u w v : List Nat} {p : Nat} (hu : l.drop p = u) (e : u = w ++ v) : l.drop (p + w.length) = v := by
  rw [← List.drop_drop, hu, e, List.drop_left]
end Lw

namespace Lw
open PySem PySem.Spec Zed
theorem pow_ok {fT fP : Fn} {N : Nat} (hT : TermOk fT N) : PowOk (runD 2 (b_Reader_power fT fP)) (N + 1) := by
  intro A r p l u h hl hp hu hN hf
  have h0 := h.at_
  have sg := sign_is h hl
  rw [hu] at sg
  cases u with
  | nil => simp [fac] at hf
  | cons c u =>
    simp only [List.take_succ_cons, List.take_zero] at sg
    have hu1 : l.drop (p + 1) = u := by rw [← List.drop_drop, hu]; rfl
    have hlen : l.length = p + (u.length + 1) := by
      have z := congrArg List.length hu
      rw [List.length_drop] at z
      simp at z
      omega
    have hN1 : u.length ≤ N := by simp at hN; omega
    by_cases hc : c = 40
    · subst hc
      have h1 := step1_rd h
      have g1 : (step1 A r l p).get r = some (.ins 2 [some (.int ((p : Int) + 1)), some (.str (tx l))]) := by unfold step1; rw [ZH.get_set_same]
      have k1 : Kp r A (step1 A r l p) := Kp.set _
      rcases hT h1 hl (by omega) hu1 hN1 with ⟨v, A', t⟩ | ⟨m', w, v, ts, m, A', t, hm', hst⟩
      · refine .inl ⟨v, A', pow_ex (fr := [.va (.ref r), .un]) ?_, k1.trans t.kp, by have := t.le; simp; omega, fun m hm d s i => ?_⟩
        · have te := t.eq
          unfold step1 at te g1
          simp [h0, List.lookup, sg, eqZ_s, s_lp, ft_spot, getF, setF, te, g1]
        · rw [auto_lp hm, t.bad .bg rfl, List.length_cons]
          have := t.le
          congr 1
          omega
      · have g2 := (t.good .bg rfl).eq
        have dv : l.drop (p + 1 + w.length) = v := suf_app hu1 g2
        have hwl : u.length = w.length + v.length := by rw [g2, List.length_append]
        have dem := demand_is (c := 41) t.rd hl
        rw [dv] at dem
        have te := t.eq
        have ha := t.rd.at_
        have hne : m ≠ r := by have z1 := t.ge; have z2 := h.lt; have z3 := k1.le; omega
        by_cases hv : v.head? = some 41
        · rw [if_pos hv] at dem
          obtain ⟨v', rfl⟩ : ∃ v', v = 41 :: v' := by
            cases v with
            | nil => simp at hv
            | cons a v => simp at hv; exact ⟨v, by rw [hv]⟩
          have h2 := step1_rd t.rd
          have hm2 : (step1 A' r l (p + 1 + w.length)).get m = some (.lst (ts.map Z.str)) := by
            unfold step1
            rw [ZH.get_set_ne _ _ hne]
            exact t.lst
          have dv2 : l.drop (p + 1 + w.length + 1) = v' := by rw [← List.drop_drop, dv]; rfl
          have few := (t.good .bg rfl).few
          obtain ⟨w2, v2, ts2, A2, e1, e2, e3, e4, e5, e6, e7, e8, e9, e10⟩ := stars_is v' (n := big) h2 hl dv2 hm2 hne (by simp at hwl ⊢; omega) (by simp at hwl; show v'.length < 1000000000; omega)
          refine .inr ⟨40 :: w ++ 41 :: w2, v2, ts ++ ts2, m, A2, ⟨pow_tail ?_ e1, ?_, by have z1 := t.ge; have z3 := k1.le; omega, by rw [e9]; simpa [step1] using t.lt, ?_, ?_, fun m0 hm0 => ⟨?_, fun d s i => ?_, ?_, ?_⟩, by have := t.few1; simp; omega⟩, e3, by simp⟩
          · unfold step1 at te g1 dem ⊢
            simp [h0, List.lookup, sg, eqZ_s, s_lp, s_rp, ft_spot, getF, setF, te, g1, ha, dem]
          · rw [e8, List.map_append]
          · refine k1.trans ⟨by rw [e9]; simpa [step1] using t.kp.le, fun j hj hr => ?_⟩
            have z1 := t.ge
            rw [e10 j hr (by omega), ← t.kp.same j hj hr]
            unfold step1
            rw [ZH.get_set_ne _ _ hr]
          · have ea : p + 1 + w.length + 1 + w2.length = p + (40 :: w ++ 41 :: w2).length := by simp; omega
            rw [ea] at e7
            exact e7
          · rw [g2, e2]; simp
          · rw [auto_lp hm0, (t.good .bg rfl).on, auto_rp hm', e2, auto_st e4]
            congr 1
            simp
            omega
          · exact same_skip (by simp) ((t.good .bg rfl).same.app (same_skip (by simp) (no_names e4 e6)))
          · simp; omega
        · rw [if_neg hv] at dem
          refine .inl ⟨v, A', pow_ex (fr := [.va (.ref r), .va (.ref m)]) ?_, k1.trans t.kp, by simp; omega, fun m0 hm0 d s i => ?_⟩
          · have ep : ((l.length - v.length : Nat) : Int) = ((p + 1 + w.length : Nat) : Int) := by congr 1; omega
            rw [ep]
            unfold step1 at te g1
            simp [h0, List.lookup, sg, eqZ_s, s_lp, s_rp, ft_spot, getF, setF, te, g1, ha, dem]
          · rw [auto_lp hm0, (t.good .bg rfl).on, auto_halt hm' hst (fun z => absurd z hv) (fun _ z => by omega) (fun _ _ => by omega)]
            congr 1
            simp
            omega
    · have hnm : c ∈ [119, 120, 121, 122] := by simp [fac] at hf; simp; omega
      have hru : r ≠ A.n := by have := h.lt; omega
      have gp : (A.push (.lst [.str (tx [c])])).get r = some (.ins 2 [some (.int (p : Nat)), some (.str (tx l))]) := by rw [ZH.get_push_lt _ _ h.lt]; exact h0
      have h1 : Rdr (A.push (.lst [.str (tx [c])])) r l p := h.push _
      have h2 := step1_rd h1
      have hm2 : (step1 (A.push (.lst [.str (tx [c])])) r l p).get A.n = some (.lst [.str (tx [c])]) := by
        unfold step1
        rw [ZH.get_set_ne _ _ (Ne.symm hru), ZH.get_push_same]
      obtain ⟨w2, v2, ts2, A2, e1, e2, e3, e4, e5, e6, e7, e8, e9, e10⟩ := stars_is u (n := big) h2 hl hu1 hm2 (Ne.symm hru) (by simp; omega) (by show u.length < 1000000000; omega)
      have one : 1 ≤ sizeLine := small (by decide)
      refine .inr ⟨c :: w2, v2, tx [c] :: ts2, A.n, A2, ⟨pow_tail ?_ e1, by rw [e8]; rfl, Nat.le_refl _, by rw [e9]; simp [step1], ⟨by rw [e9]; simp [step1], fun j hj hr => ?_⟩, ?_, fun m0 hm0 => ⟨by rw [e2]; rfl, fun d s i => ?_, ?_, by simp; omega⟩, by simp; omega⟩, e3, by simp⟩
      · unfold step1
        simp [h0, List.lookup, sg, eqZ_s, s_lp, hc, ft_spot, getF, setF, gp, one]
      · rw [e10 j hr (by omega)]
        unfold step1
        rw [ZH.get_set_ne _ _ hr, ZH.get_push_lt _ _ hj]
      · have ea : p + 1 + w2.length = p + (c :: w2).length := by simp; omega
        rw [ea] at e7
        exact e7
      · rw [auto_nm hm0 hnm, e2, auto_st e4]
        congr 1
        simp
        omega
      · intro x hx
        rw [List.mem_cons, List.mem_cons, no_names e4 e6 x hx, tx_inj]
        simp
end Lw

namespace Lw
open PySem PySem.Spec Zed
abbrev tT : DT := dTru (dMeth [(2, F_Reader_is_factor)] (dVar 0) dNil [])
abbrev tB (fP : Fn) : DS := dSet 1 (dBin addZ (dBin addZ (dVar 1) (dMeth [(2, fP)] (dVar 0) dNil [])) (dLst (dCons (dC (.str "times")) dNil)))
theorem stop_of {u : List Nat} (h : fac u = false) (k : stopS u) : stop u := by
  cases u with
  | nil => trivial
  | cons c u =>
    have k : c ∉ [94, 126] := k
    simp [fac] at h
    simp at k
    show c ∉ [119, 120, 121, 122, 40, 94, 126]
    simp
    omega
theorem times_no : ∀ c ∈ [119, 120, 121, 122], tx [c] ≠ (Str.ofString "times") := by decide +kernel
theorem Same.times {ts : List Str} {w : List Nat} (h : Same ts w) : Same (ts ++ [(Str.ofString "times")]) w := fun c hc => by
  rw [List.mem_append, h c hc, List.mem_singleton]
  constructor
  · rintro (e | e)
    · exact e
    · exact absurd e (times_no c hc)
  · exact .inl
theorem loop_is {fP : Fn} {N : Nat} (hP : PowOk fP N) : ∀ (k : Nat) {u : List Nat} {A : ZH} {r p m n : Nat} {l : List Nat} {ts0 : List Str}, u.length ≤ k → Rdr A r l p → l.length ≤ 200 → p ≤ l.length → l.drop p = u → u.length ≤ N → A.get m = some (.lst (ts0.map Z.str)) → m ≠ r → m < A.n →
    ts0.length + 2 * u.length ≤ 900 → u.length < n → stopS u →
    (∃ (v : List Nat) (A' : ZH) (fr : Fr), dWhl tT (tB fP) n [.va (.ref r), .va (.ref m)] A = .ex (1, [some (.int ((l.length - v.length : Nat) : Int))]) fr A' ∧ Kp r A A' ∧ v.length ≤ u.length ∧ Bad .fc u v) ∨
    ∃ (w v : List Nat) (ts : List Str) (m' : Nat) (A' : ZH), dWhl tT (tB fP) n [.va (.ref r), .va (.ref m)] A = .nx [.va (.ref r), .va (.ref m')] A' ∧ A'.get m' = some (.lst ((ts0 ++ ts).map Z.str)) ∧ (m' = m ∨ A.n ≤ m') ∧ m' < A'.n ∧ Kp r A A' ∧ Rdr A' r l (p + w.length) ∧ Good .fc .fc u w v ts ∧ stop v := by
  intro k
  induction k with
  | zero =>
    intro u A r p m n l ts0 hk h hl hp hu hN hm hne hlt hz hn hs
    have hu0 : u = [] := List.length_eq_zero_iff.mp (by omega)
    subst hu0
    obtain ⟨n, rfl⟩ : ∃ k, n = k + 1 := ⟨n - 1, by omega⟩
    have h0 := h.at_
    have fa := factor_is h hl
    rw [hu] at fa
    refine .inr ⟨[], [], [], m, A, ?_, by simpa using hm, .inl rfl, hlt, Kp.refl _ _, by simpa using h, ⟨rfl, fun d s i => by simp, Same.nil, by simp⟩, trivial⟩
    unfold dWhl
    simp [h0, List.lookup, fa, fac]
  | succ k ih =>
    intro u A r p m n l ts0 hk h hl hp hu hN hm hne hlt hz hn hs
    obtain ⟨n, rfl⟩ : ∃ k, n = k + 1 := ⟨n - 1, by omega⟩
    have h0 := h.at_
    have fa := factor_is h hl
    rw [hu] at fa
    have hlen : l.length = p + u.length := by
      have z := congrArg List.length hu
      rw [List.length_drop] at z
      omega
    cases hf : fac u with
    | false =>
      refine .inr ⟨[], u, [], m, A, ?_, by simpa using hm, .inl rfl, hlt, Kp.refl _ _, by simpa using h, ⟨rfl, fun d s i => by simp, Same.nil, by simp⟩, stop_of hf hs⟩
      unfold dWhl
      simp [h0, List.lookup, fa, hf]
    | true =>
      rcases hP h hl hp hu hN hf with ⟨v, A', t⟩ | ⟨w, v, ts, m2, A1, t, hst, hw⟩
      · refine .inl ⟨v, A', [.va (.ref r), .va (.ref m)], ?_, t.kp, t.le, t.bad .fc (by simp)⟩
        have te := t.eq
        unfold dWhl
        simp [h0, List.lookup, fa, hf, te]
      · have g := t.good .fc (by simp)
        have g2 := g.eq
        have hwl : u.length = w.length + v.length := by rw [g2, List.length_append]
        have dv : l.drop (p + w.length) = v := suf_app hu g2
        have te := t.eq
        have few := g.few
        have few1 := t.few1
        have hm1 : A1.get m = some (.lst (ts0.map Z.str)) := by rw [t.kp.same m hlt hne]; exact hm
        have hm2 := t.lst
        let A2 := ((A1.push (.lst ((ts0 ++ ts).map Z.str))).push (.lst [.str (Str.ofString "times")])).push (.lst ((ts0 ++ ts ++ [(Str.ofString "times")]).map Z.str))
        have r2 : Rdr A2 r l (p + w.length) := ((t.rd.push _).push _).push _
        have sz1 : ts0.length + ts.length ≤ sizeLine := small (by omega)
        have sz2 : ts0.length + ts.length + 1 ≤ sizeLine := small (by omega)
        have sz3 : 1 ≤ sizeLine := small (by omega)
        have kp2 : Kp r A A2 := t.kp.trans ((Kp.push _).trans ((Kp.push _).trans (Kp.push _)))
        have stp : dWhl tT (tB fP) (n + 1) [.va (.ref r), .va (.ref m)] A = dWhl tT (tB fP) n [.va (.ref r), .va (.ref (A1.n + 2))] A2 := by
          conv => lhs; unfold dWhl
          simp [h0, List.lookup, fa, hf, te, hm1, hm2, sz1, sz2, sz3, ZH.get_push, A2]
        have n2 : A2.n = A1.n + 3 := by simp [A2]
        have q2 : A2.get (A1.n + 2) = some (.lst ((ts0 ++ ts ++ [(Str.ofString "times")]).map Z.str)) := by
          have e : A1.n + 2 = ((A1.push (.lst ((ts0 ++ ts).map Z.str))).push (.lst [.str (Str.ofString "times")])).n := by simp
          rw [e]
          exact ZH.get_push_same _ _
        rcases ih (u := v) (A := A2) (r := r) (p := p + w.length) (m := A1.n + 2) (n := n) (l := l) (ts0 := ts0 ++ ts ++ [(Str.ofString "times")]) (by omega) r2 hl (by omega) dv (by omega) q2 (by have := t.rd.lt; omega) (by omega) (by simp; omega) (by omega) hst with ⟨v3, A3, fr3, e1, e2, e3, e4⟩ | ⟨w3, v3, ts3, m3, A3, e1, e2, e3, e4, e5, e6, e7, e8⟩
        · refine .inl ⟨v3, A3, fr3, by rw [stp, e1], kp2.trans e2, by omega, fun d s i => ?_⟩
          rw [g.on, e4]
          congr 1
          omega
        · refine .inr ⟨w ++ w3, v3, ts ++ [(Str.ofString "times")] ++ ts3, m3, A3, by rw [stp, e1], by rw [e2]; simp, .inr (by have := t.kp.le; rcases e3 with e3 | e3 <;> omega), e4, kp2.trans e5, ?_, ⟨by rw [g2, e7.eq, List.append_assoc], fun d s i => ?_, ?_, ?_⟩, e8⟩
          · rw [List.length_append, ← Nat.add_assoc]
            exact e6
          · rw [g.on, e7.on, List.length_append]
            congr 1
            omega
          · exact g.same.times.app e7.same
          · have := e7.few
            have := t.few1
            simp
            omega
abbrev tY1 : DS := dIte (dTst (dBin eqZ (dMeth [(2, F_Reader_sign)] (dVar 0) dNil []) (dC (.str "1")))) (dSeq (dSetFld ft_spot (dVar 0) (dBin addZ (dFld ft_spot (dVar 0)) (dC (.int 1)))) (dRet (dLst (dCons (dC (.str "one")) dNil)))) dNop
abbrev tY2 : DS := dIte (dNot (dTru (dMeth [(2, F_Reader_is_factor)] (dVar 0) dNil []))) (dRaise 1 1 (dCons (dFld ft_spot (dVar 0)) dNil)) dNop
abbrev tY3 (fP : Fn) : DS := dSet 1 (dMeth [(2, fP)] (dVar 0) dNil [])
theorem b_term (fT fP : Fn) : b_Reader_term fT fP = dSeq tY1 (dSeq tY2 (dSeq (tY3 fP) (dSeq (dWhl tT (tB fP) big) (dRet (dVar 1))))) := rfl
theorem run_eq {n : Nat} {d : DS} {r : Nat} {A : ZH} : runD 2 d [.ref r] A = match d [.va (.ref r), .un] A with
    | .rt z A' => R.ok z A'
    | .nx _ A' => .ok .non A'
    | .ex x _ A' => .ex x A'
    | _ => .no := rfl
theorem one_no : ∀ c ∈ [119, 120, 121, 122], tx [c] ≠ (Str.ofString "one") := by decide +kernel
theorem term_ok {fT fP : Fn} {N : Nat} (hP : PowOk fP N) : TermOk (runD 2 (b_Reader_term fT fP)) N := by
  intro A r p l u h hl hp hu hN
  have h0 := h.at_
  have sg := sign_is h hl
  have fa := factor_is h hl
  rw [hu] at sg fa
  have hlen : l.length = p + u.length := by
    have z := congrArg List.length hu
    rw [List.length_drop] at z
    omega
  have hpl : ((p : Nat) : Int) = ((l.length - u.length : Nat) : Int) := by congr 1; omega
  have sz : 1 ≤ sizeLine := small (by decide)
  by_cases h1 : u.head? = some 49
  · obtain ⟨u', rfl⟩ : ∃ v', u = 49 :: v' := by
      cases u with
      | nil => simp at h1
      | cons a v => simp at h1; exact ⟨v, by rw [h1]⟩
    simp only [List.take_succ_cons, List.take_zero] at sg
    have rs := step1_rd h
    refine .inr ⟨.one, [49], u', [(Str.ofString "one")], A.n, (step1 A r l p).push (.lst [.str (Str.ofString "one")]), ⟨?_, ?_, Nat.le_refl _, by simp [step1], ?_, rs.push _, fun m hm => ?_, by simp⟩, by decide, fun e => by cases e⟩
    · rw [run_eq (n := 0), b_term]
      simp [h0, List.lookup, sg, eqZ_s, s_1, ft_spot, getF, setF, sz, step1]
    · have e : A.n = (step1 A r l p).n := by simp [step1]
      rw [e]
      exact ZH.get_push_same _ _
    · exact Kp.trans (Kp.set _) (Kp.push _)
    · subst hm
      refine ⟨rfl, fun d s i => auto_one, fun c hc => ?_, by simp⟩
      rw [List.mem_singleton, List.mem_singleton]
      constructor
      · intro e; exact absurd e (one_no c hc)
      · intro e; subst e; simp at hc
  · have ne1 : u.take 1 ≠ [49] := by
      cases u with
      | nil => simp
      | cons a v => simp at h1 ⊢; exact h1
    have y1 : tY1 [.va (.ref r), .un] A = .nx [.va (.ref r), .un] A := by
      simp [h0, List.lookup, sg, eqZ_s, s_1, ne1]
    cases hf : fac u with
    | false =>
      have y2 : tY2 [.va (.ref r), .un] A = .ex (1, [some (.int (p : Nat))]) [.va (.ref r), .un] A := by
        simp [h0, List.lookup, fa, hf, ft_spot, getF]
      refine .inl ⟨u, A, ?_, Kp.refl _ _, Nat.le_refl _, fun m hm d s i => ?_⟩
      · rw [run_eq (n := 0), b_term, q_seq, y1, RS.sq_nx, q_seq, y2, ← hpl]
        rfl
      · subst hm
        rw [Nat.sub_self, Nat.add_zero]
        cases u with
        | nil => simp [auto]
        | cons c u =>
          have e : opn .bg d s c = false := by
            simp [fac] at hf
            simp at h1
            simp [opn]
            omega
          unfold auto
          rw [if_neg (by rw [e]; simp)]
    | true =>
      have y2 : tY2 [.va (.ref r), .un] A = .nx [.va (.ref r), .un] A := by
        simp [h0, List.lookup, fa, hf]
      rcases hP h hl hp hu hN hf with ⟨v, A', t⟩ | ⟨w, v, ts, m, A1, t, hst, hw⟩
      · have y3 : tY3 fP [.va (.ref r), .un] A = .ex (1, [some (.int ((l.length - v.length : Nat) : Int))]) [.va (.ref r), .un] A' := by
          have te := t.eq
          simp [h0, List.lookup, te]
        refine .inl ⟨v, A', ?_, t.kp, t.le, fun m hm => t.bad m (by rw [hm]; decide)⟩
        rw [run_eq (n := 0), b_term, q_seq, y1, RS.sq_nx, q_seq, y2, RS.sq_nx, q_seq, y3]
        rfl
      · have y3 : tY3 fP [.va (.ref r), .un] A = .nx [.va (.ref r), .va (.ref m)] A1 := by
          have te := t.eq
          simp [h0, List.lookup, te]
        have g := t.good .bg (by decide)
        have g2 := g.eq
        have hwl : u.length = w.length + v.length := by rw [g2, List.length_append]
        have few1 := t.few1
        have lt := h.lt
        have ge := t.ge
        rcases loop_is hP v.length (u := v) (n := big) (Nat.le_refl _) t.rd hl (by omega) (suf_app hu g2) (by omega) t.lst (by omega) t.lt (by omega) (by show v.length < 1000000000; omega) hst with ⟨v3, A3, fr3, e1, e2, e3, e4⟩ | ⟨w3, v3, ts3, m3, A3, e1, e2, e3, e4, e5, e6, e7, e8⟩
        · refine .inl ⟨v3, A3, ?_, t.kp.trans e2, by omega, fun m0 hm0 d s i => ?_⟩
          · rw [run_eq (n := 0), b_term, q_seq, y1, RS.sq_nx, q_seq, y2, RS.sq_nx, q_seq, y3, RS.sq_nx, q_seq, e1]
            rfl
          · subst hm0
            rw [g.on, e4]
            congr 1
            omega
        · refine .inr ⟨.fc, w ++ w3, v3, ts ++ ts3, m3, A3, ⟨?_, by rw [e2], by have := t.kp.le; rcases e3 with e3 | e3 <;> omega, e4, t.kp.trans e5, ?_, fun m0 hm0 => ?_, ?_⟩, by decide, fun _ => e8⟩
          · rw [run_eq (n := 0), b_term, q_seq, y1, RS.sq_nx, q_seq, y2, RS.sq_nx, q_seq, y3, RS.sq_nx, q_seq, e1]
            rfl
          · rw [List.length_append, ← Nat.add_assoc]
            exact e6
          · subst hm0
            refine ⟨by rw [g2, e7.eq, List.append_assoc], fun d s i => ?_, g.same.app e7.same, ?_⟩
            · rw [g.on, e7.on, List.length_append]
              congr 1
              omega
            · have := e7.few
              simp
              omega
          · have := e7.few
            simp
            omega
/-- by fuel -/
theorem ring_ok : ∀ n k : Nat, 2 * n ≤ k → TermOk (F_Reader_term (k + 1)) n ∧ PowOk (F_Reader_power k) n
  | 0, k, _ => by
    have hP : PowOk (F_Reader_power k) 0 := fun A r p l u h hl hp hu hN hf => by
      have hu0 : u = [] := List.length_eq_zero_iff.mp (by omega)
      subst hu0
      simp [fac] at hf
    rw [F_Reader_term_s]
    exact ⟨term_ok hP, hP⟩
  | n + 1, k, hk => by
    obtain ⟨j, rfl⟩ : ∃ j, k = j + 1 + 1 := ⟨k - 2, by omega⟩
    have hT := (ring_ok n j (by omega)).1
    have hP : PowOk (F_Reader_power (j + 1 + 1)) (n + 1) := by
      rw [F_Reader_power_s]
      exact pow_ok hT
    rw [F_Reader_term_s]
    exact ⟨term_ok hP, hP⟩
theorem term600 : TermOk (F_Reader_term 600) 200 := (ring_ok 200 599 (by decide)).1
end Lw

namespace Lw
open PySem PySem.Spec Zed
def ms : Md → List Nat
  | .bg => [98, 101, 103, 105, 110]
  | .one => [111, 110, 101]
  | .fc => [102, 97, 99, 116, 111, 114]
theorem s_bg : (Str.ofString "begin") = tx (ms .bg) := by decide +kernel
theorem s_one : (Str.ofString "one") = tx (ms .one) := by decide +kernel
theorem s_fc : (Str.ofString "factor") = tx (ms .fc) := by decide +kernel
theorem ms_inj {a b : Md} : ms a = ms b ↔ a = b := by cases a <;> cases b <;> decide
theorem dat_s (A : ZH) (k : Nat) (a : Str) : datZ A k (.str a) = some (.str a) := by cases k <;> rfl
theorem mapO_s (A : ZH) (k : Nat) : ∀ ts : List Str, mapO (datZ A k) (ts.map Z.str) = some (ts.map PyData.str)
  | [] => rfl
  | t :: ts => by
    rw [List.map_cons, mapO, dat_s]
    dsimp only
    rw [mapO_s A k ts]
    rfl
theorem any_s (a : Str) : ∀ ts : List Str, ((ts.map PyData.str).any fun z => PyData.eqv z (.str a)) = decide (a ∈ ts)
  | [] => rfl
  | t :: ts => by
    rw [List.map_cons, List.any_cons, any_s a ts]
    have e : PyData.eqv (.str t) (.str a) = (t == a) := rfl
    rw [e]
    by_cases h : t = a
    · subst h; simp
    · have h2 : ¬ a = t := fun z => h z.symm
      simp [h, h2]
theorem in_tup (a : Str) (ts : List Str) (A : ZH) : inV' (.str a) (.tup (ts.map Z.str)) A = .ok (.bl (decide (a ∈ ts))) A := by
  show R.bd (match datZ A deep (.str a), datZ A deep (.tup (ts.map Z.str)) with
    | some d, some (.tuple ds) => R.ok (ds.any fun z => PyData.eqv z d) A
    | some d, some (.list ds) => .ok (ds.any fun z => PyData.eqv z d) A
    | _, _ => .no) _ = _
  have e : datZ A deep (.tup (ts.map Z.str)) = some (.tuple (ts.map PyData.str)) := by
    show (mapO (datZ A 11) (ts.map Z.str)).map PyData.tuple = _
    rw [mapO_s]
    rfl
  rw [e, dat_s]
  dsimp only
  rw [any_s]
  rfl
theorem in_lst (a : Str) {ts : List Str} {A : ZH} {m : Nat} (h : A.get m = some (.lst (ts.map Z.str))) : inV' (.str a) (.ref m) A = .ok (.bl (decide (a ∈ ts))) A := by
  show R.bd (match datZ A deep (.str a), datZ A deep (.ref m) with
    | some d, some (.tuple ds) => R.ok (ds.any fun z => PyData.eqv z d) A
    | some d, some (.list ds) => .ok (ds.any fun z => PyData.eqv z d) A
    | _, _ => .no) _ = _
  have e : datZ A deep (.ref m) = some (.list (ts.map PyData.str)) := by
    show (match A.get m with
      | some (.lst zs) => (mapO (datZ A 11) zs).map PyData.list
      | _ => none) = _
    rw [h]
    dsimp only
    rw [mapO_s]
    rfl
  rw [e, dat_s]
  dsimp only
  rw [any_s]
  rfl
theorem in6 (c : Nat) (A : ZH) : inV' (.str (tx [c])) (.tup [.str (tx [49]), .str (tx [119]), .str (tx [120]), .str (tx [121]), .str (tx [122]), .str (tx [40])]) A = .ok (.bl (decide (c ∈ [49, 119, 120, 121, 122, 40]))) A := by
  have h := in_tup (tx [c]) [tx [49], tx [119], tx [120], tx [121], tx [122], tx [40]] A
  simpa using h
theorem in7 (c : Nat) (A : ZH) : inV' (.str (tx [c])) (.tup [.str (tx [119]), .str (tx [120]), .str (tx [121]), .str (tx [122]), .str (tx [40]), .str (tx [94]), .str (tx [126])]) A = .ok (.bl (decide (c ∈ [119, 120, 121, 122, 40, 94, 126]))) A := by
  have h := in_tup (tx [c]) [tx [119], tx [120], tx [121], tx [122], tx [40], tx [94], tx [126]] A
  simpa using h
theorem s_til : (Str.ofString "~") = tx [126] := by decide +kernel
theorem open_is (m : Md) (c d : Nat) (s : Bool) (A : ZH) : F_L_is_open [.str (tx (ms m)), .str (tx [c]), .int (d : Nat), .bl s] A = .ok (.bl (opn m d s c)) A := by
  have sz6 : 6 ≤ sizeLine := small (by decide)
  have sz7 : 7 ≤ sizeLine := small (by decide)
  cases m with
  | bg => simp [F_L_is_open, runD, b_L_is_open, s_bg, eqZ_s, s_1, s_w, s_x, s_y, s_z, s_lp, sz6, in6, opn]
  | one =>
    by_cases c1 : c = 41
    · subst c1; simp [F_L_is_open, runD, b_L_is_open, s_bg, eqZ_s, s_rp, ms, opn]
    · by_cases c2 : c = 61
      · subst c2
        by_cases hd : d = 0 <;> simp [F_L_is_open, runD, b_L_is_open, s_bg, eqZ_s, s_rp, s_eq, ms, opn, hd]
      · simp [F_L_is_open, runD, b_L_is_open, s_bg, eqZ_s, s_rp, s_eq, s_fc, ms, opn, c1, c2]
  | fc =>
    by_cases c1 : c = 41
    · subst c1; simp [F_L_is_open, runD, b_L_is_open, s_bg, eqZ_s, s_rp, ms, opn]
    · by_cases c2 : c = 61
      · subst c2
        by_cases hd : d = 0 <;> simp [F_L_is_open, runD, b_L_is_open, s_bg, eqZ_s, s_rp, s_eq, ms, opn, hd]
      · simp [F_L_is_open, runD, b_L_is_open, s_bg, eqZ_s, s_rp, s_eq, s_fc, s_w, s_x, s_y, s_z, s_lp, s_hat, s_til, sz7, in7, ms, opn, c1, c2]
abbrev fB : DS := (dSeq (dIte (dNot (dTru (dCall F_L_is_open [] (dCons (dVar 1) (dCons (dVar 5) (dCons (dVar 2) (dCons (dVar 3) dNil))))))) (dRet (dVar 4)) dNop) (dIte (dTst (dBin eqZ (dVar 5) (dC (.str "(")))) (dPar [1, 2] (dCons (dC (.str "begin")) (dCons (dBin addZ (dVar 2) (dC (.int 1))) dNil))) (dIte (dTst (dBin eqZ (dVar 5) (dC (.str "=")))) (dAsg (dTup (dCons (dC (.str "begin")) (dCons (dC (.bl true)) dNil))) (gTu 2 (gCo (gNm 1) (gCo (gNm 3) gNo)))) (dIte (dTst (dBin eqZ (dVar 5) (dC (.str ")")))) (dPar [1, 2] (dCons (dC (.str "factor")) (dCons (dBin subZ (dVar 2) (dC (.int 1))) dNil))) (dIte (dTst (dBin eqZ (dVar 1) (dC (.str "begin")))) (dSet 1 (dIf (dTst (dBin eqZ (dVar 5) (dC (.str "1")))) (dC (.str "one")) (dC (.str "factor")))) (dIte (dTst (dBin inV' (dVar 5) (dC (.str "wxyz")))) (dSet 1 (dC (.str "factor"))) dNop))))))
abbrev fG : DG := gTu 2 (gCo (gNm 4) (gCo (gNm 5) gNo))
abbrev fRest : DS := (dSeq (dSet 6 (dAndV (dVar 3) (dAndV (dBin eqZ (dVar 2) (dC (.int 0))) (dBin neZ (dVar 1) (dC (.str "begin")))))) (dRet (dIf (dTru (dVar 6)) (dC .non) (dCB lenZ (dCons (dVar 0) dNil)))))
theorem b_fault : b_L_fault = dSeq (dAsg (dTup (dCons (dC (.str "begin")) (dCons (dC (.int 0)) (dCons (dC (.bl false)) dNil)))) (gTu 3 (gCo (gNm 1) (gCo (gNm 2) (gCo (gNm 3) gNo))))) (dSeq (dFor big (iEnu (dVar 0)) fG fB) fRest) := rfl
def fz : Option Nat → Z
  | none => .non
  | some i => .int (i : Nat)
theorem nx_sign {l u : List Nat} {c i : Nat} (h : l.drop i = c :: u) (A : ZH) : nxE (nxS (signsZ (tx l))) i A = some (some (.tup [.int (i : Nat), .str (tx [c])])) := by
  have e : (signsZ (tx l))[i]? = some (.str (tx [c])) := by
    unfold signsZ
    have z : l[i]? = some c := by rw [← List.head?_drop, h]; rfl
    simp [z]
  unfold nxE nxS
  rw [e]
theorem nx_end {l : List Nat} {i : Nat} (h : l.length ≤ i) (A : ZH) : nxE (nxS (signsZ (tx l))) i A = some none := by
  have e : (signsZ (tx l))[i]? = none := by
    unfold signsZ
    simp [h]
  unfold nxE nxS
  rw [e]
/-- the text's signs, one by one -/
theorem fault_loop {l : List Nat} (hl : l.length ≤ 1000) (A : ZH) : ∀ (u : List Nat) (m : Md) (d : Nat) (s : Bool) (i n : Nat) (x4 x5 : Sl), l.drop i = u → i + u.length = l.length → u.length < n →
    (dLoop (nxE (nxS (signsZ (tx l)))) fG fB n i [.va (.str (tx l)), .va (.str (tx (ms m))), .va (.int (d : Nat)), .va (.bl s), x4, x5, .un] A).sq fRest = .rt (fz (auto m d s u i)) A
  | [], m, d, s, i, n, x4, x5, hu, hi, hn => by
    obtain ⟨n, rfl⟩ : ∃ k, n = k + 1 := ⟨n - 1, by omega⟩
    unfold dLoop
    rw [nx_end (by simp at hi; omega)]
    have hs := small hl
    have hi : i = l.length := by simpa using hi
    cases s with
    | false => simp [fRest, auto, fz, tx_len, hs, hi]
    | true =>
      by_cases hd : d = 0
      · subst hd
        cases m <;> simp [fRest, auto, fz, tx_len, hs, hi, s_bg, neZ_s, ms]
      · simp [fRest, auto, fz, tx_len, hs, hi, hd]
  | c :: u, m, d, s, i, n, x4, x5, hu, hi, hn => by
    obtain ⟨n, rfl⟩ : ∃ k, n = k + 1 := ⟨n - 1, by omega⟩
    have hu1 : l.drop (i + 1) = u := by rw [← List.drop_drop, hu]; rfl
    have hi1 : i + 1 + u.length = l.length := by simp at hi; omega
    have hn1 : u.length < n := by simp at hn; omega
    have ih := fun m d s x4 x5 => fault_loop hl A u m d s (i + 1) n x4 x5 hu1 hi1 hn1
    have op := open_is m c d s A
    unfold dLoop
    rw [nx_sign hu]
    cases ho : opn m d s c with
    | false =>
      rw [ho] at op
      simp [op, auto, ho, fz, gTu]
    | true =>
      rw [ho] at op
      have goal : ∀ fr, fB [.va (.str (tx l)), .va (.str (tx (ms m))), .va (.int (d : Nat)), .va (.bl s), .va (.int (i : Nat)), .va (.str (tx [c])), .un] A = .nx fr A → fr = [.va (.str (tx l)), .va (.str (tx (ms (nxt m d s c).1))), .va (.int ((nxt m d s c).2.1 : Nat)), .va (.bl (nxt m d s c).2.2), .va (.int (i : Nat)), .va (.str (tx [c])), .un] →
          (dLoop (nxE (nxS (signsZ (tx l)))) fG fB (n + 1) i [.va (.str (tx l)), .va (.str (tx (ms m))), .va (.int (d : Nat)), .va (.bl s), x4, x5, .un] A).sq fRest = .rt (fz (auto m d s (c :: u) i)) A := by
        intro fr e1 e2
        subst e2
        have e3 : fG (.tup [.int (i : Nat), .str (tx [c])]) [.va (.str (tx l)), .va (.str (tx (ms m))), .va (.int (d : Nat)), .va (.bl s), x4, x5, .un] A = .nx [.va (.str (tx l)), .va (.str (tx (ms m))), .va (.int (d : Nat)), .va (.bl s), .va (.int (i : Nat)), .va (.str (tx [c])), .un] A := by
          simp [gTu]
        unfold dLoop
        rw [nx_sign hu]
        dsimp only
        have e4 : auto m d s (c :: u) i = auto (nxt m d s c).1 (nxt m d s c).2.1 (nxt m d s c).2.2 u (i + 1) := by rw [auto, if_pos ho]
        rw [e3, RS.sq_nx, e1, RS.lp_nx, ih, e4]
      have two : 2 ≤ sizeLine := small (by decide)
      have g2 := goal
      unfold dLoop at g2
      rw [nx_sign hu] at g2
      by_cases c40 : c = 40
      · subst c40
        refine g2 _ ?_ rfl
        simp [op, s_lp, s_eq, s_rp, s_bg, s_1, s_one, s_fc, eqZ_s, nxt, gTu]
      · by_cases c61 : c = 61
        · subst c61
          refine g2 _ ?_ rfl
          simp [op, s_lp, s_eq, s_rp, s_bg, s_1, s_one, s_fc, eqZ_s, nxt, gTu, two]
        · by_cases c41 : c = 41
          · subst c41
            have hd : 0 < d := by
              cases m <;> simp [opn] at ho <;> exact ho
            have ed : ((d : Nat) : Int) - 1 = ((d - 1 : Nat) : Int) := by omega
            refine g2 _ ?_ rfl
            simp [op, s_lp, s_eq, s_rp, s_bg, s_1, s_one, s_fc, eqZ_s, nxt, gTu, two, ed]
          · by_cases hm : m = .bg
            · subst hm
              refine g2 _ ?_ rfl
              by_cases c49 : c = 49
              · subst c49
                simp [op, s_lp, s_eq, s_rp, s_bg, s_1, s_one, s_fc, eqZ_s, nxt, gTu, two]
              · simp [op, s_lp, s_eq, s_rp, s_bg, s_1, s_one, s_fc, eqZ_s, nxt, gTu, two, c40, c61, c41, c49]
            · have hm2 : ms m ≠ ms .bg := fun e => hm (ms_inj.mp e)
              refine g2 _ ?_ rfl
              by_cases hc : c ∈ [119, 120, 121, 122] <;> simp [op, s_lp, s_eq, s_rp, s_bg, s_1, s_one, s_fc, s_wxyz, v_inS, eqZ_s, nxt, gTu, two, c40, c61, c41, hm, hm2, hc]
theorem fault_is {l : List Nat} (hl : l.length ≤ 1000) (A : ZH) : F_L_fault [.str (tx l)] A = .ok (fz (auto .bg 0 false l 0)) A := by
  have lp := fault_loop hl A l .bg 0 false 0 big .un .un rfl (by simp) (by show l.length < 1000000000; omega)
  have three : 3 ≤ sizeLine := small (by decide)
  have e1 : (dAsg (dTup (dCons (dC (.str "begin")) (dCons (dC (.int 0)) (dCons (dC (.bl false)) dNil)))) (gTu 3 (gCo (gNm 1) (gCo (gNm 2) (gCo (gNm 3) gNo))))) [.va (.str (tx l)), .un, .un, .un, .un, .un, .un] A = .nx [.va (.str (tx l)), .va (.str (tx (ms .bg))), .va (.int ((0 : Nat) : Int)), .va (.bl false), .un, .un, .un] A := by
    simp [three, gTu, s_bg]
  have e2 : (dFor big (iEnu (dVar 0)) fG fB) [.va (.str (tx l)), .va (.str (tx (ms .bg))), .va (.int ((0 : Nat) : Int)), .va (.bl false), .un, .un, .un] A = dLoop (nxE (nxS (signsZ (tx l)))) fG fB big 0 [.va (.str (tx l)), .va (.str (tx (ms .bg))), .va (.int ((0 : Nat) : Int)), .va (.bl false), .un, .un, .un] A := by
    rw [q_for]
    rfl
  show (match b_L_fault [.va (.str (tx l)), .un, .un, .un, .un, .un, .un] A with
    | .rt z A' => R.ok z A'
    | .nx _ A' => .ok .non A'
    | .ex x _ A' => .ex x A'
    | _ => .no) = _
  rw [b_fault, q_seq, e1, RS.sq_nx, q_seq, e2, lp]
end Lw

namespace Lw
open PySem PySem.Spec Zed
/-- the heap grew, nothing of it changed -/
structure Gr (A A' : ZH) : Prop where
  le : A.n ≤ A'.n
  same : ∀ j, j < A.n → A'.get j = A.get j
theorem Gr.refl (A : ZH) : Gr A A := ⟨Nat.le_refl _, fun _ _ => rfl⟩
theorem Gr.trans {A B C : ZH} (h : Gr A B) (k : Gr B C) : Gr A C := ⟨Nat.le_trans h.le k.le, fun j hj => (k.same j (Nat.lt_of_lt_of_le hj h.le)).trans (h.same j hj)⟩
theorem Gr.push {A : ZH} (o : ZO) : Gr A (A.push o) := ⟨by simp, fun j hj => ZH.get_push_lt A o hj⟩
theorem Gr.of {r : Nat} {A B C : ZH} (h : Gr A B) (hr : A.n ≤ r) (k : Kp r B C) : Gr A C := ⟨Nat.le_trans h.le k.le, fun j hj => (k.same j (Nat.lt_of_lt_of_le hj h.le) (by omega)).trans (h.same j hj)⟩
def four : List Nat := [119, 120, 121, 122]
/-- the variables, in order -/
def nm (P : Nat → Bool) : List Z := (four.filter P).map fun c => .str (tx [c])
theorem four_src (A : ZH) : iVal (dC (.str (Str.ofString "wxyz"))) = fun fr A => .ok (nxS (four.map fun c => Z.str (tx [c]))) A := by
  funext fr A
  rw [s_wxyz]
  rfl
theorem filter_map4 (P : Nat → Bool) (Q : Z → Bool) (h : ∀ c ∈ four, Q (.str (tx [c])) = P c) : (((four.map fun c => Z.str (tx [c])).filter Q).map fun z => z) = nm P := by
  unfold nm
  simp only [four] at h ⊢
  simp at h
  obtain ⟨h1, h2, h3, h4⟩ := h
  simp [List.filter_cons, h1, h2, h3, h4]
  cases P 119 <;> cases P 120 <;> cases P 121 <;> cases P 122 <;> simp
theorem names_is {A : ZH} {m1 m2 : Nat} {t1 t2 : List Str} (h1 : A.get m1 = some (.lst (t1.map Z.str))) (h2 : A.get m2 = some (.lst (t2.map Z.str))) :
    F_names_in [.ref m1, .ref m2] A = .ok (.tup (nm fun c => decide (tx [c] ∈ t1) || decide (tx [c] ∈ t2))) (A.push (.lst (nm fun c => decide (tx [c] ∈ t1) || decide (tx [c] ∈ t2)))) := by
  have lc := lc_pure0 (zs := four.map fun c => Z.str (tx [c])) (k := 2) (tt := dOr (dTst (dBin inV' (dVar 2) (dVar 0))) (dTst (dBin inV' (dVar 2) (dVar 1)))) (n := big) (te := dVar 2) (fr := [.va (.ref m1), .va (.ref m2), .un]) (A := A)
    (P := fun z => match z with | .str s => decide (s ∈ t1) || decide (s ∈ t2) | _ => false) (f := fun z => z) (fun z hz => by
      obtain ⟨c, hc, rfl⟩ := List.mem_map.mp hz
      simp [in_lst (tx [c]) h1, in_lst (tx [c]) h2]
      by_cases q : tx [c] ∈ t1 <;> simp [q]) (fun z hz _ => by simp) (big_gt (by decide)) (small (by decide))
  rw [filter_map4 (fun c => decide (tx [c] ∈ t1) || decide (tx [c] ∈ t2)) _ (fun c _ => rfl)] at lc
  simp [F_names_in, runD, b_names_in, four_src A, wipeF]
  rw [lc]
  simp [tupfZ]
theorem dueN_is {A : ZH} {l : List Nat} : (dCB tupfZ (dCons (dLc big (iVal (dTup (dCons (dC (.str "w")) (dCons (dC (.str "x")) (dCons (dC (.str "y")) (dCons (dC (.str "z")) dNil)))))) (.one 2) (dTst (dBin inV' (dVar 2) (dVar 0))) (dVar 2) [2]) dNil)) [.va (.str (tx l)), .va .non, .un] A = .ok (.tup (nm fun c => decide (c ∈ l))) (A.push (.lst (nm fun c => decide (c ∈ l)))) := by
  have lc := lc_pure0 (zs := four.map fun c => Z.str (tx [c])) (k := 2) (tt := dTst (dBin inV' (dVar 2) (dVar 0))) (n := big) (te := dVar 2) (fr := [.va (.str (tx l)), .va .non, .un]) (A := A)
    (P := fun z => match z with | .str s => (match s.cps.toList with | [c] => decide (c ∈ l) | _ => false) | _ => false) (f := fun z => z) (fun z hz => by
      obtain ⟨c, hc, rfl⟩ := List.mem_map.mp hz
      simp [v_inS]) (fun z hz _ => by simp) (big_gt (by decide)) (small (by decide))
  rw [filter_map4 (fun c => decide (c ∈ l)) _ (fun c _ => rfl)] at lc
  have src : iVal (dTup (dCons (dC (.str "w")) (dCons (dC (.str "x")) (dCons (dC (.str "y")) (dCons (dC (.str "z")) dNil))))) [.va (.str (tx l)), .va .non, .un] A = .ok (nxS (four.map fun c => Z.str (tx [c]))) A := by
    unfold iVal
    have sz : 4 ≤ sizeLine := small (by decide)
    simp [sz, s_w, s_x, s_y, s_z, four]
  simp only [q_cb, q_cons, q_lc, src, R.bd_ok, wipeF]
  have e : (List.set [Sl.va (Z.str (tx l)), Sl.va Z.non, Sl.un] 2 Sl.un) = [.va (.str (tx l)), .va .non, .un] := rfl
  rw [e, lc]
  simp [tupfZ]
/-- what is due -/
def rz (l : List Nat) : Z := match auto .bg 0 false l 0 with
  | some i => .int (i : Nat)
  | none => .tup (nm fun c => decide (c ∈ l))
theorem due_is {l : List Nat} (hl : l.length ≤ 1000) (A : ZH) : ∃ A', F_L_due [.str (tx l)] A = .ok (rz l) A' ∧ Gr A A' := by
  have fi := fault_is hl A
  cases h : auto .bg 0 false l 0 with
  | some i =>
    rw [h] at fi
    refine ⟨A, ?_, Gr.refl _⟩
    simp [F_L_due, runD, b_L_due, fi, fz, rz, h]
  | none =>
    rw [h] at fi
    refine ⟨A.push (.lst (nm fun c => decide (c ∈ l))), ?_, Gr.push _⟩
    have e : F_L_due [.str (tx l)] A = (match (dRet (dCB tupfZ (dCons (dLc big (iVal (dTup (dCons (dC (.str "w")) (dCons (dC (.str "x")) (dCons (dC (.str "y")) (dCons (dC (.str "z")) dNil)))))) (.one 2) (dTst (dBin inV' (dVar 2) (dVar 0))) (dVar 2) [2]) dNil))) [.va (.str (tx l)), .va .non, .un] A with
      | .rt z A' => R.ok z A'
      | .nx _ A' => .ok .non A'
      | .ex x _ A' => .ex x A'
      | _ => .no) := by
      have e1 : dSet 1 (dCall F_L_fault [] (dCons (dVar 0) dNil)) [.va (.str (tx l)), .un, .un] A = .nx [.va (.str (tx l)), .va .non, .un] A := by simp [fi, fz]
      have e2 : dIte (dTst (dNoN (dVar 1))) (dRet (dVar 1)) dNop [.va (.str (tx l)), .va .non, .un] A = .nx [.va (.str (tx l)), .va .non, .un] A := by simp
      show (match b_L_due [.va (.str (tx l)), .un, .un] A with
        | .rt z A' => R.ok z A'
        | .nx _ A' => .ok .non A'
        | .ex x _ A' => .ex x A'
        | _ => .no) = _
      unfold b_L_due
      rw [q_seq, e1, RS.sq_nx, q_seq, e2, RS.sq_nx]
    rw [e, q_ret, dueN_is]
    simp [rz, h]
theorem auto_eq {m : Md} {i : Nat} {v : List Nat} (hm : m ≠ .bg) : auto m 0 false (61 :: v) i = auto .bg 0 true v (i + 1) := by
  cases m with
  | bg => exact absurd rfl hm
  | one => simp [auto, opn, nxt]
  | fc => simp [auto, opn, nxt]
theorem auto_fin {m : Md} {i : Nat} (hm : m ≠ .bg) : auto m 0 true [] i = none := by
  simp [auto, hm]
abbrev t1 : DS := (dIte (dOr (dNot (dTru (dIsi .str (dVar 0)))) (dTst (dBin gtZ (dCB lenZ (dCons (dVar 0) dNil)) (dC (.int 200))))) (dRaise 1 1 (dCons (dUn negZ (dC (.int 1))) dNil)) dNop)
abbrev t2 : DS := (dSet 1 (dMake 2 F_Reader_init [] (dCons (dVar 0) dNil)))
abbrev t3 : DS := (dSet 2 (dMeth [(2, (F_Reader_term 600))] (dVar 1) dNil []))
abbrev t4 : DS := (dExp (dMeth [(2, F_Reader_demand)] (dVar 1) (dCons (dC (.str "=")) dNil) []))
abbrev t5 : DS := (dSet 3 (dMeth [(2, (F_Reader_term 600))] (dVar 1) dNil []))
abbrev t6 : DS := (dIte (dTst (dBin ltZ (dFld ft_spot (dVar 1)) (dCB lenZ (dCons (dVar 0) dNil)))) (dRaise 1 1 (dCons (dFld ft_spot (dVar 1)) dNil)) dNop)
theorem b_two : b_two_terms = dSeq t1 (dSeq t2 (dSeq t3 (dSeq t4 (dSeq t5 (dSeq t6 (dRet (dTup (dCons (dVar 2) (dCons (dVar 3) dNil))))))))) := rfl
theorem isi_s (s : Str) (A : ZH) (fr : Fr) (d : DE) (h : d fr A = .ok (.str s) A) : dIsi .str d fr A = .ok (.bl true) A := by
  unfold dIsi
  rw [h]
  rfl
theorem make_is (l : List Nat) (A : ZH) : ∃ A', t2 [.va (.str (tx l)), .un, .un, .un] A = .nx [.va (.str (tx l)), .va (.ref A.n), .un, .un] A' ∧ Rdr A' A.n l 0 ∧ Gr A A' := by
  have two : 2 ≤ sizeLine := small (by decide)
  refine ⟨((A.push (.ins 2 [])).set A.n (.ins 2 [none, some (.str (tx l))])).set A.n (.ins 2 [some (.int 0), some (.str (tx l))]), ?_, ⟨by simp, by simp⟩, ?_⟩
  · simp [dMake, F_Reader_init, runD, b_Reader_init, gTu, gFl, two, ft_text, ft_spot, List.lookup, setF]
  · refine ⟨by simp, fun j hj => ?_⟩
    rw [ZH.get_set_ne _ _ (by omega), ZH.get_set_ne _ _ (by omega), ZH.get_push_lt _ _ hj]
theorem run4 {d : DS} {x : Z} {A : ZH} : runD 4 d [x] A = match d [.va x, .un, .un, .un] A with
    | .rt z A' => R.ok z A'
    | .nx _ A' => .ok .non A'
    | .ex x _ A' => .ex x A'
    | _ => .no := rfl
/-- both terms are read, or the first place where it can't go on -/
theorem two_is {l : List Nat} (hl : l.length ≤ 200) (A : ZH) :
    (∃ (p : Nat) (A' : ZH), F_two_terms [.str (tx l)] A = .ex (1, [some (.int (p : Nat))]) A' ∧ Gr A A' ∧ auto .bg 0 false l 0 = some p) ∨
    ∃ (m1 m2 : Nat) (ts1 ts2 : List Str) (A' : ZH), F_two_terms [.str (tx l)] A = .ok (.tup [.ref m1, .ref m2]) A' ∧ Gr A A' ∧ A'.get m1 = some (.lst (ts1.map Z.str)) ∧ A'.get m2 = some (.lst (ts2.map Z.str)) ∧ auto .bg 0 false l 0 = none ∧ ∀ c ∈ four, (tx [c] ∈ ts1 ∨ tx [c] ∈ ts2) ↔ c ∈ l := by
  have hs := small (n := l.length) (by omega)
  have sz2 : 2 ≤ sizeLine := small (by decide)
  obtain ⟨A1, e2, r1, g1⟩ := make_is l A
  have e1 : t1 [.va (.str (tx l)), .un, .un, .un] A = .nx [.va (.str (tx l)), .un, .un, .un] A := by
    have z : ¬ (200 : Int) < (l.length : Int) := by omega
    simp [isi_s (tx l), tx_len, hs, z]
  rcases term600 r1 (by omega) (Nat.zero_le _) rfl hl with ⟨v, A2, t⟩ | ⟨m', w, v, ts, m1, A2, t, hm', hst⟩
  · have k := t.bad .bg rfl 0 false 0
    refine .inl ⟨l.length - v.length, A2, ?_, g1.of (Nat.le_refl _) t.kp, by simpa using k⟩
    have e3 : t3 [.va (.str (tx l)), .va (.ref A.n), .un, .un] A1 = .ex (1, [some (.int ((l.length - v.length : Nat) : Int))]) [.va (.str (tx l)), .va (.ref A.n), .un, .un] A2 := by
      have te := t.eq
      have ra := r1.at_
      simp [ra, List.lookup, te]
    rw [F_two_terms, run4, b_two, q_seq, e1, RS.sq_nx, q_seq, e2, RS.sq_nx, q_seq, e3]
    rfl
  · have gd := t.good .bg rfl
    have hw : l = w ++ v := gd.eq
    have hll : l.length = w.length + v.length := by rw [hw, List.length_append]
    have e3 : t3 [.va (.str (tx l)), .va (.ref A.n), .un, .un] A1 = .nx [.va (.str (tx l)), .va (.ref A.n), .va (.ref m1), .un] A2 := by
      have te := t.eq
      have ra := r1.at_
      simp [ra, List.lookup, te]
    have r2 := t.rd
    rw [Nat.zero_add] at r2
    have dv : l.drop w.length = v := by have z := suf_app (p := 0) rfl hw; rwa [Nat.zero_add] at z
    have dem := demand_is (c := 61) r2 (by omega)
    rw [dv] at dem
    have g2 := g1.of (Nat.le_refl _) t.kp
    have on := gd.on 0 false 0
    rw [Nat.zero_add, List.drop_zero] at on
    by_cases hv : v.head? = some 61
    · rw [if_pos hv] at dem
      obtain ⟨v', rfl⟩ : ∃ v', v = 61 :: v' := by
        cases v with
        | nil => simp at hv
        | cons a v => simp at hv; exact ⟨v, by rw [hv]⟩
      have e4 : t4 [.va (.str (tx l)), .va (.ref A.n), .va (.ref m1), .un] A2 = .nx [.va (.str (tx l)), .va (.ref A.n), .va (.ref m1), .un] (step1 A2 A.n l w.length) := by
        have ra := r2.at_
        simp [ra, List.lookup, dem, s_eq]
      have r3 := step1_rd r2
      have k3 : Kp A.n A2 (step1 A2 A.n l w.length) := Kp.set _
      have dv2 : l.drop (w.length + 1) = v' := by rw [← List.drop_drop, dv]; rfl
      have on2 : auto .bg 0 false l 0 = auto .bg 0 true v' (w.length + 1) := by rw [on, auto_eq hm']
      rcases term600 r3 (by omega) (by simp at hll; omega) dv2 (by simp at hll; omega) with ⟨v2, A3, t'⟩ | ⟨m'', w2, v2, ts2, m2, A3, t', hm2, hst2⟩
      · have k := t'.bad .bg rfl 0 true (w.length + 1)
        have le := t'.le
        refine .inl ⟨l.length - v2.length, A3, ?_, g2.of (Nat.le_refl _) (k3.trans t'.kp), ?_⟩
        · have e5 : t5 [.va (.str (tx l)), .va (.ref A.n), .va (.ref m1), .un] (step1 A2 A.n l w.length) = .ex (1, [some (.int ((l.length - v2.length : Nat) : Int))]) [.va (.str (tx l)), .va (.ref A.n), .va (.ref m1), .un] A3 := by
            have te := t'.eq
            have ra := r3.at_
            simp [ra, List.lookup, te]
          rw [F_two_terms, run4, b_two, q_seq, e1, RS.sq_nx, q_seq, e2, RS.sq_nx, q_seq, e3, RS.sq_nx, q_seq, e4, RS.sq_nx, q_seq, e5]
          rfl
        · rw [on2, k]
          congr 1
          simp at hll
          omega
      · have gd2 := t'.good .bg rfl
        have hw2 : v' = w2 ++ v2 := gd2.eq
        have hll2 : v'.length = w2.length + v2.length := by rw [hw2, List.length_append]
        have e5 : t5 [.va (.str (tx l)), .va (.ref A.n), .va (.ref m1), .un] (step1 A2 A.n l w.length) = .nx [.va (.str (tx l)), .va (.ref A.n), .va (.ref m1), .va (.ref m2)] A3 := by
          have te := t'.eq
          have ra := r3.at_
          simp [ra, List.lookup, te]
        have r4 := t'.rd
        have on3 : auto .bg 0 false l 0 = auto m'' 0 true v2 (w.length + 1 + w2.length) := by rw [on2, gd2.on]
        have g3 := g2.of (Nat.le_refl _) (k3.trans t'.kp)
        cases v2 with
        | cons c v2 =>
          refine .inl ⟨w.length + 1 + w2.length, A3, ?_, g3, ?_⟩
          · have e6 : t6 [.va (.str (tx l)), .va (.ref A.n), .va (.ref m1), .va (.ref m2)] A3 = .ex (1, [some (.int ((w.length + 1 + w2.length : Nat) : Int))]) [.va (.str (tx l)), .va (.ref A.n), .va (.ref m1), .va (.ref m2)] A3 := by
              have ra := r4.at_
              have z : ((w.length + 1 + w2.length : Nat) : Int) < (l.length : Int) := by simp at hll hll2; omega
              simp only [q_ite, q_tst, q_bin, q_fld, q_var, List.getElem?_cons_succ, List.getElem?_cons_zero, R.bd_ok, ra, ft_spot, lk2, getF]
              simp only [Option.join_some, q_cb, q_cons, q_nil, q_var, List.getElem?_cons_zero, R.bd_ok, v_lenS, tx_len, if_pos hs, v_ltI, R.tb_bl, R.st_ok, decide_eq_true z, if_true]
              simp [ra, List.lookup, getF]
            rw [F_two_terms, run4, b_two, q_seq, e1, RS.sq_nx, q_seq, e2, RS.sq_nx, q_seq, e3, RS.sq_nx, q_seq, e4, RS.sq_nx, q_seq, e5, RS.sq_nx, q_seq, e6]
            rfl
          · rw [on3, auto_halt hm2 hst2 (fun _ => rfl) (fun _ _ => rfl) (fun z => by cases z)]
        | nil =>
          have e6 : t6 [.va (.str (tx l)), .va (.ref A.n), .va (.ref m1), .va (.ref m2)] A3 = .nx [.va (.str (tx l)), .va (.ref A.n), .va (.ref m1), .va (.ref m2)] A3 := by
            have ra := r4.at_
            have z : ¬ ((w.length + 1 + w2.length : Nat) : Int) < (l.length : Int) := by simp at hll hll2; omega
            simp only [q_ite, q_tst, q_bin, q_fld, q_var, List.getElem?_cons_succ, List.getElem?_cons_zero, R.bd_ok, ra, ft_spot, lk2, getF]
            simp only [Option.join_some, q_cb, q_cons, q_nil, q_var, List.getElem?_cons_zero, R.bd_ok, v_lenS, tx_len, if_pos hs, v_ltI, R.tb_bl, R.st_ok, decide_eq_false z]
            rfl
          have ne : m1 ≠ A.n := by
            have z1 := t.ge
            have z2 := r1.lt
            omega
          refine .inr ⟨m1, m2, ts, ts2, A3, ?_, g3, ?_, t'.lst, by rw [on3, auto_fin hm2], fun c hc => ?_⟩
          · rw [F_two_terms, run4, b_two, q_seq, e1, RS.sq_nx, q_seq, e2, RS.sq_nx, q_seq, e3, RS.sq_nx, q_seq, e4, RS.sq_nx, q_seq, e5, RS.sq_nx, q_seq, e6, RS.sq_nx]
            simp [sz2]
          · rw [t'.kp.same m1 (by simpa [step1] using t.lt) ne]
            unfold step1
            rw [ZH.get_set_ne _ _ ne]
            exact t.lst
          · rw [gd.same c hc, gd2.same c hc, hw, hw2]
            simp
            constructor
            · rintro (e | e)
              · exact .inl e
              · exact .inr (.inr e)
            · rintro (e | e | e)
              · exact .inl e
              · subst e; simp [four] at hc
              · exact .inr e
    · rw [if_neg hv] at dem
      refine .inl ⟨w.length, A2, ?_, g2, ?_⟩
      · have e4 : t4 [.va (.str (tx l)), .va (.ref A.n), .va (.ref m1), .un] A2 = .ex (1, [some (.int ((w.length : Nat) : Int))]) [.va (.str (tx l)), .va (.ref A.n), .va (.ref m1), .un] A2 := by
          have ra := r2.at_
          simp [ra, List.lookup, dem, s_eq]
        rw [F_two_terms, run4, b_two, q_seq, e1, RS.sq_nx, q_seq, e2, RS.sq_nx, q_seq, e3, RS.sq_nx, q_seq, e4]
        rfl
      · rw [on, auto_halt hm' hst (fun _ => rfl) (fun z _ => absurd z hv) (fun _ z => by cases z)]
theorem nm_eq {P Q : Nat → Bool} (h : ∀ c ∈ four, P c = Q c) : nm P = nm Q := by
  unfold nm
  rw [List.filter_congr h]
theorem read_is {l : List Nat} (hl : l.length ≤ 200) (A : ZH) :
    (∃ (p : Nat) (A' : ZH), F_read_identity [.str (tx l)] A = .ex (1, [some (.int (p : Nat))]) A' ∧ Gr A A' ∧ auto .bg 0 false l 0 = some p) ∨
    ∃ A', F_read_identity [.str (tx l)] A = .ok (.tup (nm fun c => decide (c ∈ l))) A' ∧ Gr A A' ∧ auto .bg 0 false l 0 = none := by
  rcases two_is hl A with ⟨p, A', e, g, a⟩ | ⟨m1, m2, ts1, ts2, A', e, g, l1, l2, a, sm⟩
  · refine .inl ⟨p, A', ?_, g, a⟩
    simp [F_read_identity, runD, b_read_identity, e]
  · have n := names_is l1 l2
    rw [nm_eq (Q := fun c => decide (c ∈ l)) (fun c hc => by rw [← Bool.decide_or]; exact decide_eq_decide.mpr (sm c hc))] at n
    refine .inr ⟨_, ?_, g.trans (Gr.push (.lst (nm fun c => decide (c ∈ l)))), a⟩
    simp [F_read_identity, runD, b_read_identity, e, gTu, n]
theorem said_is {l : List Nat} (hl : l.length ≤ 200) (A : ZH) : ∃ A', F_L_said [.str (tx l)] A = .ok (rz l) A' ∧ Gr A A' := by
  rcases read_is hl A with ⟨p, A', e, g, a⟩ | ⟨A', e, g, a⟩
  · refine ⟨A', ?_, g⟩
    simp [F_L_said, runD, b_L_said, dTry, e, dHs, dXf, List.lookup, getF, RS.suit, RS.unb, rz, a]
  · refine ⟨A', ?_, g⟩
    simp [F_L_said, runD, b_L_said, dTry, e, rz, a]
theorem said_big {l : List Nat} (hl : 200 < l.length) (h2 : l.length ≤ 1000) (A : ZH) : F_L_said [.str (tx l)] A = .ok (.int (-1)) A := by
  have e : F_two_terms [.str (tx l)] A = .ex (1, [some (.int (-1))]) A := by
    have z : (200 : Int) < (l.length : Int) := by omega
    have e1 : t1 [.va (.str (tx l)), .un, .un, .un] A = .ex (1, [some (.int (-1))]) [.va (.str (tx l)), .un, .un, .un] A := by
      simp [isi_s (tx l), tx_len, small h2, z]
    rw [F_two_terms, run4, b_two, q_seq, e1]
    rfl
  simp [F_L_said, runD, b_L_said, dTry, F_read_identity, b_read_identity, e, dHs, dXf, List.lookup, getF, RS.suit, RS.unb]
theorem said_odd {z : Z} {A : ZH} {t : BT} (h : tyZ z A = some t) (hs : isB t .str = false) : F_L_said [z] A = .ok (.int (-1)) A := by
  have e : F_two_terms [z] A = .ex (1, [some (.int (-1))]) A := by
    have e0 : dIsi .str (dVar 0) [.va z, .un, .un, .un] A = .ok (.bl false) A := by
      unfold dIsi
      rw [q_var]
      dsimp only [List.getElem?_cons_zero]
      rw [R.bd_ok, h]
      dsimp only
      rw [hs]
    have e1 : t1 [.va z, .un, .un, .un] A = .ex (1, [some (.int (-1))]) [.va z, .un, .un, .un] A := by
      simp [e0]
    rw [F_two_terms, run4, b_two, q_seq, e1]
    rfl
  simp [F_L_said, runD, b_L_said, dTry, F_read_identity, b_read_identity, e, dHs, dXf, List.lookup, getF, RS.suit, RS.unb]
end Lw

namespace Lw
open PySem PySem.Spec Zed L2
/-- a source of draws at n -/
structure Src (A : ZH) (n : Nat) : Prop where
  lt : n < A.n
  at_ : ∃ a b c : Int, A.get n = some (.lst [.int a, .int b, .int c])
theorem Src.push {A : ZH} {n : Nat} (h : Src A n) (o : ZO) : Src (A.push o) n := by
  obtain ⟨a, b, c, e⟩ := h.at_
  exact ⟨by have := h.lt; simp; omega, a, b, c, by rw [ZH.get_push_lt A o h.lt]; exact e⟩
theorem Src.gr {A B : ZH} {n : Nat} (h : Src A n) (g : Gr A B) : Src B n := by
  obtain ⟨a, b, c, e⟩ := h.at_
  exact ⟨Nat.lt_of_lt_of_le h.lt g.le, a, b, c, by rw [g.same n h.lt]; exact e⟩
theorem Gr.kp {A B : ZH} (n : Nat) (g : Gr A B) : Kp n A B := ⟨g.le, fun j hj _ => g.same j hj⟩
theorem at3_0 (a b c : Z) : atI [a, b, c] 0 = some a := rfl
theorem at3_1 (a b c : Z) : atI [a, b, c] 1 = some b := rfl
theorem at3_2 (a b c : Z) : atI [a, b, c] 2 = some c := rfl
theorem ix3_0 : ixN 3 0 = some 0 := rfl
theorem ix3_2 : ixN 3 2 = some 2 := rfl
theorem mulOk_r {i j : Int} (h1 : 0 ≤ j) (h2 : j < 10000000000) : mulOk i j = true := by
  unfold mulOk
  have a : decide (-(2 ^ 64) < j) = true := decide_eq_true (by omega)
  have b : decide (j < 2 ^ 64) = true := decide_eq_true (by omega)
  simp only [a, b, Bool.and_self, Bool.or_true, Bool.true_or]
theorem mulOk_l {i j : Int} (h1 : 0 ≤ i) (h2 : i < 10000000000) : mulOk i j = true := by
  unfold mulOk
  have a : decide (-(2 ^ 64) < i) = true := decide_eq_true (by omega)
  have b : decide (i < 2 ^ 64) = true := decide_eq_true (by omega)
  simp only [a, b, Bool.and_self, Bool.or_true, Bool.true_or]
theorem log_ok {j : Int} (h1 : 0 ≤ j) (h2 : j < 10000000000) : j.natAbs.log2 < 9000 := by
  have h3 : j.natAbs < 2 ^ 64 := by omega
  by_cases h0 : j.natAbs = 0
  · rw [h0]; decide
  · have := (Nat.log2_lt h0).mpr h3
    omega
theorem draw_is {A : ZH} {n : Nat} (h : Src A n) (m : Nat) (hm : 0 < m) (hm2 : m ≤ 1000000) : ∃ (d : Nat) (A' : ZH), F_L_draw [.ref n, .int (m : Nat)] A = .ok (.int (d : Nat)) A' ∧ d < m ∧ A'.n = A.n ∧ (∀ j, j ≠ n → A'.get j = A.get j) ∧ Src A' n := by
  obtain ⟨a, b, c, e⟩ := h.at_
  have lt := h.lt
  have hm' : (0 : Int) < (m : Nat) := by omega
  have lg : m.log2 < 9000 := by simpa using log_ok (j := (m : Nat)) (by omega) (by omega)
  by_cases ha : (0 : Int) < a
  · have h1 := Int.emod_nonneg a (b := (m : Nat)) (by omega)
    have h2 := Int.emod_lt_of_pos a hm'
    obtain ⟨d, hd⟩ := Int.eq_ofNat_of_zero_le h1
    refine ⟨d, A.set n (.lst [.int (a / (m : Nat)), .int b, .int c]), ?_, by omega, by simp, fun j hj => ZH.get_set_ne _ _ hj, ⟨by simpa using lt, _, _, _, ZH.get_set_same _ _ _⟩⟩
    simp [F_L_draw, runD, b_L_draw, e, at3_0, at3_1, at3_2, ix3_0, ix3_2, ha, hm, lg, hd]
  · have pos : (0 : Int) < 2147483629 := by decide
    generalize hx : (b + 7919 * (c + 1) + 13) * 48271 % 2147483629 = x
    have x1 : 0 ≤ x := by rw [← hx]; exact Int.emod_nonneg _ (by decide)
    have x2 : x < 2147483629 := by rw [← hx]; exact Int.emod_lt_of_pos _ (by decide)
    generalize hy : x * (x / 1019 + 69621) % 2147483579 = y
    have y1 : 0 ≤ y := by rw [← hy]; exact Int.emod_nonneg _ (by decide)
    have y2 : y < 2147483579 := by rw [← hy]; exact Int.emod_lt_of_pos _ (by decide)
    generalize hz : y * (y / 2003 + 40692) % 2147483549 / 3 % (m : Nat) = z
    have z1 : 0 ≤ z := by rw [← hz]; exact Int.emod_nonneg _ (by omega)
    have z2 : z < (m : Nat) := by rw [← hz]; exact Int.emod_lt_of_pos _ hm'
    obtain ⟨d, hd⟩ := Int.eq_ofNat_of_zero_le z1
    have k1 : mulOk 7919 (c + 1) = true := mulOk_l (by decide) (by decide)
    have k2 : mulOk (b + 7919 * (c + 1) + 13) 48271 = true := mulOk_r (by decide) (by decide)
    have k3 : mulOk x (x / 1019 + 69621) = true := mulOk_l x1 (by omega)
    have k4 : mulOk y (y / 2003 + 40692) = true := mulOk_l y1 (by omega)
    have l1 : Nat.log2 1019 < 9000 := by decide
    have l2 : Nat.log2 2003 < 9000 := by decide
    have l3 : Nat.log2 3 < 9000 := by decide
    refine ⟨d, A.set n (.lst [.int a, .int b, .int (c + 1)]), ?_, by omega, by simp, fun j hj => ZH.get_set_ne _ _ hj, ⟨by simpa using lt, _, _, _, ZH.get_set_same _ _ _⟩⟩
    simp [F_L_draw, runD, b_L_draw, e, at3_0, at3_1, at3_2, ix3_0, ix3_2, ha, hm, lg, k1, k2, hx, k3, hy, k4, hz, hd, l1, l2, l3]
theorem atI_nat {α : Type} {xs : List α} {d : Nat} {x : α} (h : xs[d]? = some x) : atI xs (d : Nat) = some x := by
  unfold atI ixN
  have hl := (List.getElem?_eq_some_iff.mp h).1
  rw [if_pos (by omega)]
  have e : ((d : Int)).toNat = d := by omega
  rw [if_pos (by omega), e]
  exact h
theorem pick_is {A : ZH} {n k : Nat} {zs : List Z} (h : Src A n) (hk : A.get k = some (.lst zs)) (hkn : k ≠ n) (h1 : 0 < zs.length) (h2 : zs.length ≤ 1000) : ∃ (z : Z) (A' : ZH), F_L_pick [.ref n, .ref k] A = .ok z A' ∧ z ∈ zs ∧ A'.n = A.n ∧ (∀ j, j ≠ n → A'.get j = A.get j) ∧ Src A' n := by
  obtain ⟨d, A', e, hd, n', g, s⟩ := draw_is h zs.length h1 (by omega)
  have hz : zs[d]? = some zs[d] := by simp [hd]
  have hk' : A'.get k = some (.lst zs) := by rw [g k hkn]; exact hk
  refine ⟨zs[d], A', ?_, List.getElem_mem hd, n', g, s⟩
  simp [F_L_pick, runD, b_L_pick, hk, e, hk', atI_nat hz]
/-- the look passes f, from m to m' -/
def On (m m' : Md) (f : List Nat) : Prop := ∀ d s v i, auto m d s (f ++ v) i = auto m' d s v (i + f.length)
theorem On.app {a b c : Md} {f g : List Nat} (h : On a b f) (k : On b c g) : On a c (f ++ g) := fun d s v i => by
  rw [List.append_assoc, h, k, List.length_append]
  congr 1
  omega
theorem On.nil {a : Md} : On a a [] := fun d s v i => by simp
theorem On.nm {a : Md} {c : Nat} (ha : a ≠ .one) (hc : c ∈ four) : On a .fc [c] := fun d s v i => auto_nm ha hc
theorem On.par {a b : Md} {t : List Nat} (ha : a ≠ .one) (h : On .bg b t) (hb : b ≠ .bg) : On a .fc (40 :: t ++ [41]) := fun d s v i => by
  show auto a d s (40 :: (t ++ [41] ++ v)) i = _
  rw [auto_lp ha, List.append_assoc, h, List.singleton_append, auto_rp hb]
  congr 1
  simp
  omega
theorem On.st {f : List Nat} (h : ∀ c ∈ f, c = 94 ∨ c = 126) : On .fc .fc f := fun d s v i => auto_st h
/-- how long a drawn term may be -/
def Bd : Nat → Nat
  | 0 => 12
  | d + 1 => 3 * (Bd d + 5)
theorem Bd_le : ∀ d : Nat, d ≤ 6 → Bd d ≤ 20000 := by decide
theorem Bd_ge (d : Nat) : 12 ≤ Bd d := by cases d <;> simp [Bd]; omega
def lets : List Z := [.str (tx [119]), .str (tx [120]), .str (tx [121]), .str (tx [122])]
def sufs : List Z := [.str (tx []), .str (tx []), .str (tx [94]), .str (tx [126]), .str (tx [94, 94]), .str (tx [126, 94, 126])]
theorem s_hh : (Str.ofString "^^") = tx [94, 94] := by decide +kernel
theorem s_tht : (Str.ofString "~^~") = tx [126, 94, 126] := by decide +kernel
theorem lets_is {z : Z} (h : z ∈ lets) : ∃ c ∈ four, z = .str (tx [c]) := by
  simp [lets] at h
  rcases h with rfl | rfl | rfl | rfl
  · exact ⟨119, by decide, rfl⟩
  · exact ⟨120, by decide, rfl⟩
  · exact ⟨121, by decide, rfl⟩
  · exact ⟨122, by decide, rfl⟩
theorem sufs_is {z : Z} (h : z ∈ sufs) : ∃ f : List Nat, z = .str (tx f) ∧ f.length ≤ 3 ∧ ∀ c ∈ f, c = 94 ∨ c = 126 := by
  simp [sufs] at h
  rcases h with rfl | rfl | rfl | rfl | rfl
  · exact ⟨[], rfl, by decide, by simp⟩
  · exact ⟨[94], rfl, by decide, by simp⟩
  · exact ⟨[126], rfl, by decide, by simp⟩
  · exact ⟨[94, 94], rfl, by decide, by simp⟩
  · exact ⟨[126, 94, 126], rfl, by decide, by simp⟩
theorem small2 {n : Nat} (h : n ≤ 100000) : n ≤ sizeLine := by rw [sizeLine_eq]; omega
/-- a list is made and one of its items drawn -/
theorem draw_of {A : ZH} {n : Nat} {zs : List Z} (h : Src A n) (h1 : 0 < zs.length) (h2 : zs.length ≤ 1000) : ∃ (z : Z) (A' : ZH), F_L_pick [.ref n, .ref A.n] (A.push (.lst zs)) = .ok z A' ∧ z ∈ zs ∧ Kp n A A' ∧ Src A' n := by
  obtain ⟨z, A', e, hz, n', g, s⟩ := pick_is (h.push (.lst zs)) (ZH.get_push_same A _) (by have := h.lt; omega) h1 h2
  refine ⟨z, A', e, hz, ⟨by rw [n']; simp, fun j hj hn => ?_⟩, s⟩
  rw [g j hn, ZH.get_push_lt _ _ hj]
def TmOk (F : Fn) (D : Nat) : Prop := ∀ ⦃A : ZH⦄ ⦃n d : Nat⦄, Src A n → d ≤ D → d ≤ 6 → ∃ (t : List Nat) (m : Md) (A' : ZH), F [.ref n, .int (d : Nat)] A = .ok (.str (tx t)) A' ∧ On .bg m t ∧ m ≠ .bg ∧ t.length ≤ Bd d ∧ Kp n A A' ∧ Src A' n
abbrev lL : DA := dCons (dVar 0) (dCons (dLst (dCons (dC (.str "w")) (dCons (dC (.str "x")) (dCons (dC (.str "y")) (dCons (dC (.str "z")) dNil))))) dNil)
abbrev lS : DA := dCons (dVar 0) (dCons (dLst (dCons (dC (.str "")) (dCons (dC (.str "")) (dCons (dC (.str "^")) (dCons (dC (.str "~")) (dCons (dC (.str "^^")) (dCons (dC (.str "~^~")) dNil))))))) dNil)
abbrev l1 : DS := dSet 4 (dCall F_L_pick [] lL)
abbrev l2 (F : Fn) : DS := dIte (dAnd (dTst (dBin gtZ (dVar 1) (dC (.int 0)))) (dTst (dBin eqZ (dCall F_L_draw [] (dCons (dVar 0) (dCons (dC (.int 3)) dNil))) (dC (.int 0))))) (dSet 4 (dBin addZ (dBin addZ (dC (.str "(")) (dCall F [] (dCons (dVar 0) (dCons (dBin subZ (dVar 1) (dC (.int 1))) dNil)))) (dC (.str ")")))) dNop
abbrev l3 : DS := dSet 2 (dBin addZ (dBin addZ (dVar 2) (dVar 4)) (dCall F_L_pick [] lS))
abbrev lB (F : Fn) : DS := dSeq l1 (dSeq (l2 F) l3)
theorem b_tm (F : Fn) : b_L_term F = dSeq (dIte (dTst (dBin eqZ (dCall F_L_draw [] (dCons (dVar 0) (dCons (dC (.int 6)) dNil))) (dC (.int 0)))) (dRet (dC (.str "1"))) dNop) (dSeq (dSet 2 (dC (.str ""))) (dSeq (dFor big (iRg1 (dBin addZ (dC (.int 1)) (dCall F_L_draw [] (dCons (dVar 0) (dCons (dC (.int 3)) dNil))))) (gNm 3) (lB F)) (dRet (dVar 2)))) := rfl
theorem turn_is {F : Fn} {D : Nat} (hF : ∀ d : Nat, 0 < d → d ≤ D → TmOk F (d - 1)) {A : ZH} {n d : Nat} {f : List Nat} {m : Md} {x3 x4 : Sl} (h : Src A n) (hd : d ≤ D) (h6 : d ≤ 6) (on : On .bg m f) (hm : m ≠ .one) (hf : f.length ≤ 40000) :
    ∃ (g : List Nat) (x : Sl) (A' : ZH), lB F [.va (.ref n), .va (.int (d : Nat)), .va (.str (tx f)), x3, x4] A = .nx [.va (.ref n), .va (.int (d : Nat)), .va (.str (tx (f ++ g))), x3, x] A' ∧ On .bg .fc (f ++ g) ∧ 3 * g.length ≤ Bd d ∧ Kp n A A' ∧ Src A' n := by
  obtain ⟨z1, A1, e1, hz1, k1, s1⟩ := draw_of (zs := lets) h (by decide) (by decide)
  obtain ⟨c, hc, rfl⟩ := lets_is hz1
  have sz4 : 4 ≤ sizeLine := small (by decide)
  have sz6 : 6 ≤ sizeLine := small (by decide)
  have q1 : l1 [.va (.ref n), .va (.int (d : Nat)), .va (.str (tx f)), x3, x4] A = .nx [.va (.ref n), .va (.int (d : Nat)), .va (.str (tx f)), x3, .va (.str (tx [c]))] A1 := by
    unfold lets at e1
    simp [s_w, s_x, s_y, s_z, sz4, e1]
  have two : ∃ (g : List Nat) (A2 : ZH), l2 F [.va (.ref n), .va (.int (d : Nat)), .va (.str (tx f)), x3, .va (.str (tx [c]))] A1 = .nx [.va (.ref n), .va (.int (d : Nat)), .va (.str (tx f)), x3, .va (.str (tx g))] A2 ∧ (∀ a, a ≠ .one → On a .fc g) ∧ 3 * g.length + 9 ≤ Bd d ∧ Kp n A1 A2 ∧ Src A2 n := by
    by_cases hd0 : 0 < d
    · have hd1 : (0 : Int) < (d : Nat) := by omega
      obtain ⟨r, A2, e2, hr, n2, g2, s2⟩ := draw_is s1 3 (by decide) (by decide)
      have k2 : Kp n A1 A2 := ⟨by omega, fun j _ hj => g2 j hj⟩
      by_cases hr0 : r = 0
      · subst hr0
        obtain ⟨t, m', A3, e3, o3, m3, b3, k3, s3⟩ := hF d hd0 hd s2 (Nat.le_refl _) (by omega)
        have ed : ((d : Nat) : Int) - 1 = ((d - 1 : Nat) : Int) := by omega
        have bl := Bd_le (d - 1) (by omega)
        have sza : 1 + t.length ≤ sizeLine := small2 (by omega)
        have szb : t.length + 1 + 1 ≤ sizeLine := small2 (by omega)
        refine ⟨40 :: t ++ [41], A3, ?_, fun a ha => On.par ha o3 m3, ?_, k2.trans k3, s3⟩
        · have e2' : F_L_draw [.ref n, .int 3] A1 = .ok (.int 0) A2 := e2
          simp [hd0, e2', ed, e3, s_lp, s_rp, tx_app, tx_len, sza, szb]
        · have : Bd d = 3 * (Bd (d - 1) + 5) := by
            obtain ⟨k, rfl⟩ : ∃ k, d = k + 1 := ⟨d - 1, by omega⟩
            rfl
          simp
          omega
      · have e2' : F_L_draw [.ref n, .int 3] A1 = .ok (.int (r : Nat)) A2 := e2
        refine ⟨[c], A2, ?_, fun a ha => On.nm ha hc, by have := Bd_ge d; simp; omega, k2, s2⟩
        simp [hd0, e2', hr0]
    · have hd' : d = 0 := by omega
      subst hd'
      refine ⟨[c], A1, ?_, fun a ha => On.nm ha hc, by simp [Bd], Kp.refl _ _, s1⟩
      simp
  obtain ⟨g, A2, q2, og, bg, k2, s2⟩ := two
  obtain ⟨z3, A3, e3, hz3, k3, s3⟩ := draw_of (zs := sufs) s2 (by decide) (by decide)
  obtain ⟨h3, rfl, l3', c3⟩ := sufs_is hz3
  have bl := Bd_le d h6
  have sza : f.length + g.length ≤ sizeLine := small2 (by omega)
  have szb : f.length + g.length + h3.length ≤ sizeLine := small2 (by omega)
  refine ⟨g ++ h3, .va (.str (tx g)), A3, ?_, ?_, by simp; omega, k1.trans (k2.trans k3), s3⟩
  · have q3 : l3 [.va (.ref n), .va (.int (d : Nat)), .va (.str (tx f)), x3, .va (.str (tx g))] A2 = .nx [.va (.ref n), .va (.int (d : Nat)), .va (.str (tx (f ++ (g ++ h3)))), x3, .va (.str (tx g))] A3 := by
      unfold sufs at e3
      simp [s_e, s_hat, s_til, s_hh, s_tht, sz6, e3, tx_app, tx_len, sza, szb]
    show dSeq l1 (dSeq (l2 F) l3) _ _ = _
    rw [q_seq, q1, RS.sq_nx, q_seq, q2, RS.sq_nx, q3]
  · exact on.app ((og m hm).app (On.st c3))
theorem nxR_at {N i : Nat} (h : i < N) (A : ZH) : nxR 0 N i A = some (some (.int (i : Nat))) := by
  unfold nxR
  rw [if_pos h]
  simp
theorem nxR_end {N i : Nat} (h : ¬ i < N) (A : ZH) : nxR 0 N i A = some none := by
  unfold nxR
  rw [if_neg h]
theorem tmloop_is {F : Fn} {D : Nat} (hF : ∀ d : Nat, 0 < d → d ≤ D → TmOk F (d - 1)) {n d N : Nat} (hd : d ≤ D) (h6 : d ≤ 6) (hN : N ≤ 3) : ∀ (j i k : Nat) {A : ZH} {f : List Nat} {m : Md} {x3 x4 : Sl}, i + j = N → j < k → Src A n → On .bg m f → m ≠ .one → (0 < j ∨ m = .fc) → 3 * f.length ≤ i * Bd d →
    ∃ (g : List Nat) (y3 y4 : Sl) (A' : ZH), dLoop (nxR 0 N) (gNm 3) (lB F) k i [.va (.ref n), .va (.int (d : Nat)), .va (.str (tx f)), x3, x4] A = .nx [.va (.ref n), .va (.int (d : Nat)), .va (.str (tx g)), y3, y4] A' ∧ On .bg .fc g ∧ 3 * g.length ≤ N * Bd d ∧ Kp n A A' ∧ Src A' n
  | 0, i, k, A, f, m, x3, x4, hij, hk, h, on, hm, hfin, hl => by
    obtain ⟨k, rfl⟩ : ∃ q, k = q + 1 := ⟨k - 1, by omega⟩
    have hm2 : m = .fc := by rcases hfin with z | z; omega; exact z
    subst hm2
    have hi : i = N := by omega
    subst hi
    refine ⟨f, x3, x4, A, ?_, on, hl, Kp.refl _ _, h⟩
    rw [dLoop, nxR_end (by omega)]
  | j + 1, i, k, A, f, m, x3, x4, hij, hk, h, on, hm, hfin, hl => by
    obtain ⟨k, rfl⟩ : ∃ q, k = q + 1 := ⟨k - 1, by omega⟩
    have bl := Bd_le d h6
    have hfl : f.length ≤ 40000 := by
      have : i * Bd d ≤ 3 * 20000 := Nat.mul_le_mul (by omega) bl
      omega
    obtain ⟨g, x, A1, e, og, bg, k1, s1⟩ := turn_is hF (x3 := .va (.int (i : Nat))) (x4 := x4) h hd h6 on hm hfl
    obtain ⟨g2, y3, y4, A2, e2, o2, b2, k2, s2⟩ := tmloop_is hF hd h6 hN j (i + 1) k (x3 := .va (.int (i : Nat))) (x4 := x) (by omega) (by omega) s1 og (by decide) (.inr rfl) (by rw [List.length_append, Nat.add_mul]; omega)
    refine ⟨g2, y3, y4, A2, ?_, o2, b2, k1.trans k2, s2⟩
    rw [dLoop, nxR_at (by omega)]
    dsimp only
    rw [q_gnm, RS.sq_nx]
    show (lB F [.va (.ref n), .va (.int (d : Nat)), .va (.str (tx f)), .va (.int (i : Nat)), x4] A).lp _ = _
    rw [e, RS.lp_nx, e2]
theorem run5 {d : DS} {x y : Z} {A : ZH} : runD 5 d [x, y] A = match d [.va x, .va y, .un, .un, .un] A with
    | .rt z A' => R.ok z A'
    | .nx _ A' => .ok .non A'
    | .ex x _ A' => .ex x A'
    | _ => .no := rfl
theorem tm_ok {F : Fn} {D : Nat} (hF : ∀ d : Nat, 0 < d → d ≤ D → TmOk F (d - 1)) : TmOk (runD 5 (b_L_term F)) D := by
  intro A n d h hd h6
  obtain ⟨r, A1, e1, hr, n1, g1, s1⟩ := draw_is h 6 (by decide) (by decide)
  have e1' : F_L_draw [.ref n, .int 6] A = .ok (.int (r : Nat)) A1 := e1
  have k1 : Kp n A A1 := ⟨by omega, fun j _ hj => g1 j hj⟩
  by_cases hr0 : r = 0
  · subst hr0
    refine ⟨[49], .one, A1, ?_, fun d s v i => auto_one, by decide, by have := Bd_ge d; simp; omega, k1, s1⟩
    rw [run5, b_tm]
    simp [e1', s_1]
  · obtain ⟨q, A2, e2, hq, n2, g2, s2⟩ := draw_is s1 3 (by decide) (by decide)
    have e2' : F_L_draw [.ref n, .int 3] A1 = .ok (.int (q : Nat)) A2 := e2
    have k2 : Kp n A1 A2 := ⟨by omega, fun j _ hj => g2 j hj⟩
    obtain ⟨g, y3, y4, A3, e3, o3, b3, k3, s3⟩ := tmloop_is hF hd h6 (N := 1 + q) (by omega) (1 + q) 0 big (x3 := .un) (x4 := .un) (by omega) (big_gt (by omega)) s2 On.nil (by decide) (.inl (by omega)) (by simp)
    have lm : lim62 (1 + (q : Nat) : Int) = true := by
      unfold lim62
      rw [decide_eq_true (by omega), decide_eq_true (by omega)]
      rfl
    have tn : ((1 : Int) + (q : Nat)).toNat = 1 + q := by omega
    refine ⟨g, .fc, A3, ?_, o3, by decide, ?_, k1.trans (k2.trans k3), s3⟩
    · have p1 : dIte (dTst (dBin eqZ (dCall F_L_draw [] (dCons (dVar 0) (dCons (dC (.int 6)) dNil))) (dC (.int 0)))) (dRet (dC (.str "1"))) dNop [.va (.ref n), .va (.int (d : Nat)), .un, .un, .un] A = .nx [.va (.ref n), .va (.int (d : Nat)), .un, .un, .un] A1 := by
        simp [e1', hr0]
      have p2 : dSet 2 (dC (.str "")) [.va (.ref n), .va (.int (d : Nat)), .un, .un, .un] A1 = .nx [.va (.ref n), .va (.int (d : Nat)), .va (.str (tx [])), .un, .un] A1 := by
        simp [s_e]
      have p3 : dFor big (iRg1 (dBin addZ (dC (.int 1)) (dCall F_L_draw [] (dCons (dVar 0) (dCons (dC (.int 3)) dNil))))) (gNm 3) (lB F) [.va (.ref n), .va (.int (d : Nat)), .va (.str (tx [])), .un, .un] A1 = dLoop (nxR 0 (1 + q)) (gNm 3) (lB F) big 0 [.va (.ref n), .va (.int (d : Nat)), .va (.str (tx [])), .un, .un] A2 := by
        have src : iRg1 (dBin addZ (dC (.int 1)) (dCall F_L_draw [] (dCons (dVar 0) (dCons (dC (.int 3)) dNil)))) [.va (.ref n), .va (.int (d : Nat)), .va (.str (tx [])), .un, .un] A1 = .ok (nxR 0 (1 + q)) A2 := by
          have s1 : (dBin addZ (dC (.int 1)) (dCall F_L_draw [] (dCons (dVar 0) (dCons (dC (.int 3)) dNil)))) [.va (.ref n), .va (.int (d : Nat)), .va (.str (tx [])), .un, .un] A1 = .ok (.int (1 + (q : Nat))) A2 := by simp [e2']
          rw [q_rg1, s1, R.bd_ok]
          dsimp only
          rw [if_pos lm, tn]
        rw [q_for, src, R.st_ok]
      rw [run5, b_tm, q_seq, p1, RS.sq_nx, q_seq, p2, RS.sq_nx, q_seq, p3, e3, RS.sq_nx]
      simp
    · have : (1 + q) * Bd d ≤ 3 * Bd d := Nat.mul_le_mul_right _ (by omega)
      omega
theorem tmring_ok : ∀ D k : Nat, D < k → TmOk (F_L_term k) D
  | D, 0, h => absurd h (Nat.not_lt_zero _)
  | D, k + 1, h => by
    rw [F_L_term_s]
    exact tm_ok fun d h0 hd => tmring_ok (d - 1) k (by omega)
theorem tm600 : TmOk (F_L_term 600) 6 := tmring_ok 6 600 (by omega)
end Lw

namespace Lw
open PySem PySem.Spec Zed L2
theorem dat_strs (A : ZH) (ts : List Str) : datZ A deep (.tup (ts.map Z.str)) = some (.tuple (ts.map PyData.str)) := by
  show (mapO (datZ A 11) (ts.map Z.str)).map PyData.tuple = _
  rw [mapO_s]
  rfl
theorem eqvAll_refl : ∀ ts : List Str, PyData.eqvAll (ts.map PyData.str) (ts.map PyData.str) = true
  | [] => rfl
  | t :: ts => by
    show (PyData.eqv (.str t) (.str t) && PyData.eqvAll (ts.map PyData.str) (ts.map PyData.str)) = true
    rw [eqvAll_refl ts]
    show ((t == t) && true) = true
    simp
theorem ne_strs (ts : List Str) (A : ZH) : neZ (.tup (ts.map Z.str)) (.tup (ts.map Z.str)) A = .ok (.bl false) A := by
  show (match datZ A deep (.tup (ts.map Z.str)), datZ A deep (.tup (ts.map Z.str)) with
    | some d, some e => R.ok (Z.bl (!PyData.eqv d e)) A
    | _, _ => .no) = _
  rw [dat_strs]
  show R.ok (Z.bl (!PyData.eqvAll _ _)) A = _
  rw [eqvAll_refl]
  rfl
theorem nm_strs (P : Nat → Bool) : nm P = ((four.filter P).map fun c => tx [c]).map Z.str := by
  unfold nm
  rw [List.map_map]
  rfl
theorem ne_rz (l : List Nat) (A : ZH) : neZ (rz l) (rz l) A = .ok (.bl false) A := by
  unfold rz
  cases auto .bg 0 false l 0 with
  | none =>
    dsimp only
    rw [nm_strs]
    exact ne_strs _ A
  | some i => simp
theorem cut_to {l : List Nat} {p : Nat} : L2.cutS (tx l) none (some (p : Nat)) = tx (l.take p) := by
  unfold L2.cutS
  rw [HT.sIx_nat, HT.sIx_none, tx_len]
  simp
theorem cut_from {l : List Nat} {p : Nat} : L2.cutS (tx l) (some (p : Nat)) none = tx (l.drop p) := by
  unfold L2.cutS
  rw [HT.sIx_nat, HT.sIx_none, tx_len]
  simp
  by_cases h : p ≤ l.length
  · rw [Nat.min_eq_left h, List.take_of_length_le (by simp)]
  · rw [Nat.min_eq_right (by omega), List.drop_eq_nil_of_le (by omega : l.length ≤ p)]
    simp
/-- said and due of a text, asked one behind the other -/
theorem both_is {l : List Nat} (hl : l.length ≤ 200) {d : DE} {fr : Fr} (hd : ∀ B, d fr B = .ok (.str (tx l)) B) (A : ZH) : ∃ A', (dTst (dBin neZ (dCall F_L_said [] (dCons d dNil)) (dCall F_L_due [] (dCons d dNil)))) fr A = .ok false A' ∧ Gr A A' := by
  obtain ⟨A1, e1, g1⟩ := said_is hl A
  obtain ⟨A2, e2, g2⟩ := due_is (l := l) (by omega) A1
  refine ⟨A2, ?_, g1.trans g2⟩
  simp [hd, e1, e2, ne_rz]
def signs : List Z := [.str (Str.ofString ""), .str (Str.ofString "1"), .str (Str.ofString "w"), .str (Str.ofString "z"), .str (Str.ofString "("), .str (Str.ofString ")"), .str (Str.ofString "^"), .str (Str.ofString "~"), .str (Str.ofString "="), .str (Str.ofString " "), .str (Str.ofString "a"), .str (Str.ofString "X"), .str (Str.ofString "0"), .str (Str.ofString "*"), .str (Str.ofString "2")]
theorem signs_is {z : Z} (h : z ∈ signs) : ∃ f : List Nat, z = .str (tx f) ∧ f.length ≤ 1 := by
  have key : ∀ s : Str, s.cps.size ≤ 1 → ∃ f : List Nat, Z.str s = .str (tx f) ∧ f.length ≤ 1 := fun s hs => ⟨s.cps.toList, by rw [← str_tx], by simpa using hs⟩
  unfold signs at h
  simp only [List.mem_cons, List.not_mem_nil, or_false] at h
  rcases h with rfl | rfl | rfl | rfl | rfl | rfl | rfl | rfl | rfl | rfl | rfl | rfl | rfl | rfl | rfl <;> exact key _ (by decide +kernel)
abbrev r0 : DS := (dSet 1 (dBin addZ (dBin addZ (dCall (F_L_term 600) [] (dCons (dVar 0) (dCons (dC (.int 6)) dNil))) (dC (.str "="))) (dCall (F_L_term 600) [] (dCons (dVar 0) (dCons (dC (.int 6)) dNil)))))
abbrev r1 : DS := (dIte (dTst (dBin gtZ (dCB lenZ (dCons (dVar 1) dNil)) (dC (.int 180)))) (dRet (dC (.bl true))) dNop)
abbrev r2 : DS := (dIte (dOr (dTst (dNoN (dCall F_L_fault [] (dCons (dVar 1) dNil)))) (dTst (dBin neZ (dCall F_L_said [] (dCons (dVar 1) dNil)) (dCall F_L_due [] (dCons (dVar 1) dNil))))) (dRet (dC (.bl false))) dNop)
abbrev b1 : DS := (dSet 3 (dCall F_L_draw [] (dCons (dVar 0) (dCons (dBin addZ (dCB lenZ (dCons (dVar 1) dNil)) (dC (.int 1))) dNil))))
abbrev b2 : DS := (dSet 4 (dCall F_L_pick [] (dCons (dVar 0) (dCons (dLst (dCons (dC (.str "")) (dCons (dC (.str "1")) (dCons (dC (.str "w")) (dCons (dC (.str "z")) (dCons (dC (.str "(")) (dCons (dC (.str ")")) (dCons (dC (.str "^")) (dCons (dC (.str "~")) (dCons (dC (.str "=")) (dCons (dC (.str " ")) (dCons (dC (.str "a")) (dCons (dC (.str "X")) (dCons (dC (.str "0")) (dCons (dC (.str "*")) (dCons (dC (.str "2")) dNil)))))))))))))))) dNil))))
abbrev b3 : DS := (dSet 5 (dBin addZ (dBin addZ (dSl (dVar 1) dNoP (dPt (dVar 3))) (dVar 4)) (dSl (dVar 1) (dPt (dBin addZ (dVar 3) (dCall F_L_draw [] (dCons (dVar 0) (dCons (dC (.int 2)) dNil))))) dNoP)))
abbrev b4 : DS := (dIte (dOr (dTst (dBin neZ (dCall F_L_said [] (dCons (dVar 5) dNil)) (dCall F_L_due [] (dCons (dVar 5) dNil)))) (dTst (dBin neZ (dCall F_L_said [] (dCons (dSl (dVar 1) dNoP (dPt (dVar 3))) dNil)) (dCall F_L_due [] (dCons (dSl (dVar 1) dNoP (dPt (dVar 3))) dNil))))) (dRet (dC (.bl false))) dNop)
abbrev rB : DS := dSeq b1 (dSeq b2 (dSeq b3 b4))
theorem b_right : b_L_right = dSeq r0 (dSeq r1 (dSeq r2 (dSeq (dFor big (iRg1 (dC (.int 8))) (gNm 2) rB) (dRet (dC (.bl true)))))) := rfl
theorem bent_is {A : ZH} {n : Nat} {l : List Nat} {x2 x3 x4 x5 : Sl} (h : Src A n) (hl : l.length ≤ 180) : ∃ (y3 y4 y5 : Sl) (A' : ZH), rB [.va (.ref n), .va (.str (tx l)), x2, x3, x4, x5] A = .nx [.va (.ref n), .va (.str (tx l)), x2, y3, y4, y5] A' ∧ Kp n A A' ∧ Src A' n := by
  have hs : l.length ≤ sizeLine := small (by omega)
  obtain ⟨d, A1, e1, hd, n1, g1, s1⟩ := draw_is h (l.length + 1) (by omega) (by omega)
  have k1 : Kp n A A1 := ⟨by omega, fun j _ hj => g1 j hj⟩
  have q1 : b1 [.va (.ref n), .va (.str (tx l)), x2, x3, x4, x5] A = .nx [.va (.ref n), .va (.str (tx l)), x2, .va (.int (d : Nat)), x4, x5] A1 := by
    have e1' : F_L_draw [.ref n, .int ((l.length : Nat) + 1)] A = .ok (.int (d : Nat)) A1 := e1
    simp [tx_len, hs, e1']
  obtain ⟨z2, A2, e2, hz2, k2, s2⟩ := draw_of (zs := signs) s1 (by decide) (by decide)
  obtain ⟨f, rfl, hf⟩ := signs_is hz2
  have sz : 15 ≤ sizeLine := small (by decide)
  have q2 : b2 [.va (.ref n), .va (.str (tx l)), x2, .va (.int (d : Nat)), x4, x5] A1 = .nx [.va (.ref n), .va (.str (tx l)), x2, .va (.int (d : Nat)), .va (.str (tx f)), x5] A2 := by
    unfold signs at e2
    simp [sz, e2]
  obtain ⟨r, A3, e3, hr, n3, g3, s3⟩ := draw_is s2 2 (by decide) (by decide)
  have k3 : Kp n A2 A3 := ⟨by omega, fun j _ hj => g3 j hj⟩
  have e3' : F_L_draw [.ref n, .int 2] A2 = .ok (.int (r : Nat)) A3 := e3
  have ht : (l.take d).length ≤ l.length := by simp; omega
  have hdr : (l.drop (d + r)).length ≤ l.length - d := by simp; omega
  have htd : (l.take d).length ≤ d := by simp; omega
  have sza : (l.take d).length + f.length ≤ sizeLine := small (by omega)
  have szb : (l.take d).length + f.length + (l.drop (d + r)).length ≤ sizeLine := small (by omega)
  have ed : ((d : Nat) : Int) + (r : Nat) = ((d + r : Nat) : Int) := by omega
  have q3 : b3 [.va (.ref n), .va (.str (tx l)), x2, .va (.int (d : Nat)), .va (.str (tx f)), x5] A2 = .nx [.va (.ref n), .va (.str (tx l)), x2, .va (.int (d : Nat)), .va (.str (tx f)), .va (.str (tx (l.take d ++ f ++ l.drop (d + r))))] A3 := by
    simp only [b3, q_set, q_bin, q_sl, q_var, List.getElem?_cons_succ, List.getElem?_cons_zero, R.bd_ok, q_nop', q_pt, v_slS, tx_len, if_pos hs, cut_to, v_addS, if_pos sza, tx_app, q_call, q_cons, q_c, q_nil, List.append_nil, e3', v_addI, ed, cut_from]
    have el : (l.take d ++ f).length + (l.drop (d + r)).length ≤ sizeLine := by rw [List.length_append]; exact szb
    rw [if_pos el]
    rfl
  have lb : (l.take d ++ f ++ l.drop (d + r)).length ≤ 200 := by
    rw [List.length_append, List.length_append]
    omega
  obtain ⟨A4, e4, g4⟩ := both_is (l := l.take d ++ f ++ l.drop (d + r)) lb (d := dVar 5) (fr := [.va (.ref n), .va (.str (tx l)), x2, .va (.int (d : Nat)), .va (.str (tx f)), .va (.str (tx (l.take d ++ f ++ l.drop (d + r))))]) (fun B => by simp) A3
  obtain ⟨A5, e5, g5⟩ := both_is (l := l.take d) (by omega) (d := dSl (dVar 1) dNoP (dPt (dVar 3))) (fr := [.va (.ref n), .va (.str (tx l)), x2, .va (.int (d : Nat)), .va (.str (tx f)), .va (.str (tx (l.take d ++ f ++ l.drop (d + r))))]) (fun B => by
    simp only [q_sl, q_var, List.getElem?_cons_succ, List.getElem?_cons_zero, R.bd_ok, q_nop', q_pt, v_slS, tx_len, if_pos hs, cut_to]) A4
  refine ⟨.va (.int (d : Nat)), .va (.str (tx f)), .va (.str (tx (l.take d ++ f ++ l.drop (d + r)))), A5, ?_, k1.trans (k2.trans (k3.trans ((g4.trans g5).kp n))), (s3.gr g4).gr g5⟩
  have q4 : b4 [.va (.ref n), .va (.str (tx l)), x2, .va (.int (d : Nat)), .va (.str (tx f)), .va (.str (tx (l.take d ++ f ++ l.drop (d + r))))] A3 = .nx [.va (.ref n), .va (.str (tx l)), x2, .va (.int (d : Nat)), .va (.str (tx f)), .va (.str (tx (l.take d ++ f ++ l.drop (d + r))))] A5 := by
    show (dIte (dOr _ _) _ _ _ _) = _
    rw [q_ite, q_or, e4, R.bd_ok, if_neg (by simp), e5, R.st_ok, if_neg (by simp)]
    rfl
  show dSeq b1 (dSeq b2 (dSeq b3 b4)) _ _ = _
  rw [q_seq, q1, RS.sq_nx, q_seq, q2, RS.sq_nx, q_seq, q3, RS.sq_nx, q4]
end Lw

namespace Lw
open PySem PySem.Spec Zed L2
theorem turns_is {n : Nat} {l : List Nat} (hl : l.length ≤ 180) : ∀ (j i k : Nat) {A : ZH} {x2 x3 x4 x5 : Sl}, i + j = 8 → j < k → Src A n → ∃ (fr : Fr) (A' : ZH), dLoop (nxR 0 8) (gNm 2) rB k i [.va (.ref n), .va (.str (tx l)), x2, x3, x4, x5] A = .nx fr A' ∧ Kp n A A' ∧ Src A' n
  | 0, i, k, A, x2, x3, x4, x5, hij, hk, h => by
    obtain ⟨k, rfl⟩ : ∃ q, k = q + 1 := ⟨k - 1, by omega⟩
    exact ⟨[.va (.ref n), .va (.str (tx l)), x2, x3, x4, x5], A, by rw [dLoop, nxR_end (by omega)], Kp.refl _ _, h⟩
  | j + 1, i, k, A, x2, x3, x4, x5, hij, hk, h => by
    obtain ⟨k, rfl⟩ : ∃ q, k = q + 1 := ⟨k - 1, by omega⟩
    obtain ⟨y3, y4, y5, A1, e, k1, s1⟩ := bent_is (x2 := .va (.int (i : Nat))) (x3 := x3) (x4 := x4) (x5 := x5) h hl
    obtain ⟨fr, A2, e2, k2, s2⟩ := turns_is hl j (i + 1) k (x2 := .va (.int (i : Nat))) (x3 := y3) (x4 := y4) (x5 := y5) (by omega) (by omega) s1
    refine ⟨fr, A2, ?_, k1.trans k2, s2⟩
    rw [dLoop, nxR_at (by omega)]
    dsimp only
    rw [q_gnm, RS.sq_nx]
    show (rB [.va (.ref n), .va (.str (tx l)), .va (.int (i : Nat)), x3, x4, x5] A).lp _ = _
    rw [e, RS.lp_nx, e2]
theorem run6 {d : DS} {x : Z} {A : ZH} : runD 6 d [x] A = match d [.va x, .un, .un, .un, .un, .un] A with
    | .rt z A' => R.ok z A'
    | .nx _ A' => .ok .non A'
    | .ex x _ A' => .ex x A'
    | _ => .no := rfl
theorem right_is {A : ZH} {n : Nat} (h : Src A n) : ∃ A', F_L_right [.ref n] A = .ok (.bl true) A' ∧ Kp n A A' ∧ Src A' n := by
  obtain ⟨t1, m1, A1, e1, o1, h1, b1', k1, s1⟩ := tm600 h (Nat.le_refl 6) (Nat.le_refl 6)
  obtain ⟨t2, m2, A2, e2, o2, h2, b2', k2, s2⟩ := tm600 s1 (Nat.le_refl 6) (Nat.le_refl 6)
  have bd := Bd_le 6 (Nat.le_refl 6)
  have sza : t1.length + [61].length ≤ sizeLine := small2 (by simp; omega)
  have szb : (t1 ++ [61]).length + t2.length ≤ sizeLine := small2 (by simp; omega)
  have szc : (t1 ++ [61] ++ t2).length ≤ sizeLine := small2 (by simp; omega)
  have e1' : F_L_term 600 [.ref n, .int 6] A = .ok (.str (tx t1)) A1 := e1
  have e2' : F_L_term 600 [.ref n, .int 6] A1 = .ok (.str (tx t2)) A2 := e2
  have p0 : r0 [.va (.ref n), .un, .un, .un, .un, .un] A = .nx [.va (.ref n), .va (.str (tx (t1 ++ [61] ++ t2))), .un, .un, .un, .un] A2 := by
    simp only [r0, q_set, q_bin, q_call, q_cons, q_var, List.getElem?_cons_zero, R.bd_ok, q_c, q_nil, List.append_nil, e1', s_eq, v_addS, tx_len, if_pos sza, tx_app, e2', if_pos szb]
    rfl
  by_cases hb : (180 : Int) < ((t1 ++ [61] ++ t2).length : Nat)
  · have p1 : r1 [.va (.ref n), .va (.str (tx (t1 ++ [61] ++ t2))), .un, .un, .un, .un] A2 = .rt (.bl true) A2 := by
      simp only [r1, q_ite, q_tst, q_bin, q_cb, q_cons, q_var, q_nil, List.getElem?_cons_succ, List.getElem?_cons_zero, R.bd_ok, v_lenS, tx_len, if_pos szc, q_c, v_gtI, decide_eq_true hb, R.tb_bl, R.st_ok, if_true, q_ret]
    refine ⟨A2, ?_, k1.trans k2, s2⟩
    rw [F_L_right, run6, b_right, q_seq, p0, RS.sq_nx, q_seq, p1]
    rfl
  · have p1 : r1 [.va (.ref n), .va (.str (tx (t1 ++ [61] ++ t2))), .un, .un, .un, .un] A2 = .nx [.va (.ref n), .va (.str (tx (t1 ++ [61] ++ t2))), .un, .un, .un, .un] A2 := by
      simp only [r1, q_ite, q_tst, q_bin, q_cb, q_cons, q_var, q_nil, List.getElem?_cons_succ, List.getElem?_cons_zero, R.bd_ok, v_lenS, tx_len, if_pos szc, q_c, v_gtI, decide_eq_false hb, R.tb_bl, R.st_ok]
      rfl
    have hl : (t1 ++ [61] ++ t2).length ≤ 180 := by omega
    have ft := fault_is (l := t1 ++ [61] ++ t2) (by omega) A2
    have fz0 : auto .bg 0 false (t1 ++ [61] ++ t2) 0 = none := by
      have q := o1 0 false ([61] ++ t2) 0
      rw [← List.append_assoc] at q
      rw [q, List.singleton_append, auto_eq h1]
      have q2 := o2 0 true [] (0 + t1.length + 1)
      rw [List.append_nil] at q2
      rw [q2, auto_fin h2]
    rw [fz0] at ft
    obtain ⟨A3, e3, g3⟩ := both_is (l := t1 ++ [61] ++ t2) (by omega) (d := dVar 1) (fr := [.va (.ref n), .va (.str (tx (t1 ++ [61] ++ t2))), .un, .un, .un, .un]) (fun B => by simp) A2
    have p2 : r2 [.va (.ref n), .va (.str (tx (t1 ++ [61] ++ t2))), .un, .un, .un, .un] A2 = .nx [.va (.ref n), .va (.str (tx (t1 ++ [61] ++ t2))), .un, .un, .un, .un] A3 := by
      show (dIte (dOr _ _) _ _ _ _) = _
      have p : dTst (dNoN (dCall F_L_fault [] (dCons (dVar 1) dNil))) [.va (.ref n), .va (.str (tx (t1 ++ [61] ++ t2))), .un, .un, .un, .un] A2 = .ok false A2 := by
        simp only [q_tst, q_noN, q_call, q_cons, q_var, q_nil, List.getElem?_cons_succ, List.getElem?_cons_zero, R.bd_ok, List.append_nil, ft, fz]
        rfl
      rw [q_ite, q_or, p, R.bd_ok, if_neg (by simp), e3, R.st_ok, if_neg (by simp)]
      rfl
    obtain ⟨fr, A4, e4, k4, s4⟩ := turns_is hl 8 0 big (x2 := .un) (x3 := .un) (x4 := .un) (x5 := .un) (by omega) (big_gt (by omega)) (s2.gr g3)
    refine ⟨A4, ?_, k1.trans (k2.trans ((g3.kp n).trans k4)), s4⟩
    have src : ∀ fr B, iRg1 (dC (.int 8)) fr B = .ok (nxR 0 8) B := fun fr B => rfl
    rw [F_L_right, run6, b_right, q_seq, p0, RS.sq_nx, q_seq, p1, RS.sq_nx, q_seq, p2, RS.sq_nx, q_seq, q_for, src, R.st_ok, e4, RS.sq_nx]
    rfl
theorem source_is (c : Int) (A : ZH) : ∃ A', F_L_source [.int c] A = .ok (.ref A.n) A' ∧ Gr A A' ∧ Src A' A.n := by
  let x : Int := if c < 0 then -c else c
  let b : Int := if decide ((10 : Int) ^ 18 ≤ x) then 1 else 0
  refine ⟨A.push (.lst [.int (x * b), .int (x % 2147483587), .int 0]), ?_, Gr.push _, ⟨by simp, _, _, _, ZH.get_push_same _ _⟩⟩
  have hb : mulOk x b = true := mulOk_r (by show 0 ≤ (if _ then (1 : Int) else 0); split <;> decide) (by show (if _ then (1 : Int) else 0) < _; split <;> decide)
  have sz : 3 ≤ sizeLine := small (by decide)
  have p1 : (dSet 0 (dCB absZ (dCons (dVar 0) dNil))) [.va (.int c)] A = .nx [.va (.int x)] A := rfl
  have pw : (dBin powZ (dC (.int 10)) (dC (.int 18))) [.va (.int x)] A = .ok (.int (10 ^ 18)) A := rfl
  have v0 : dVar 0 [.va (.int x)] A = .ok (.int x) A := rfl
  have p2 : (dBin geZ (dVar 0) (dBin powZ (dC (.int 10)) (dC (.int 18)))) [.va (.int x)] A = .ok (.bl (decide ((10 : Int) ^ 18 ≤ x))) A := by
    rw [q_bin, v0, R.bd_ok, pw]
    rfl
  have p3 : (dBin mulZ (dVar 0) (dCB intfZ (dCons (dBin geZ (dVar 0) (dBin powZ (dC (.int 10)) (dC (.int 18)))) dNil))) [.va (.int x)] A = .ok (.int (x * b)) A := by
    rw [q_bin, v0, R.bd_ok, q_cb, q_cons, p2]
    show (if mulOk x b = true then R.ok (Z.int (x * b)) A else .no) = _
    rw [if_pos hb]
  have p4 : (dBin modZ (dCB intfZ (dCons (dVar 0) dNil)) (dC (.int 2147483587))) [.va (.int x)] A = .ok (.int (x % 2147483587)) A := rfl
  show (match b_L_source [.va (.int c)] A with
    | .rt z A' => R.ok z A'
    | .nx _ A' => .ok .non A'
    | .ex x _ A' => .ex x A'
    | _ => .no) = _
  unfold b_L_source
  rw [q_seq, p1, RS.sq_nx, q_ret, q_lst, q_cons, p3, R.bd_ok, q_cons, p4]
  simp [sz]
abbrev wI : DS := (dIte (dNot (dTru (dCall F_L_right [] (dCons (dVar 2) dNil)))) (dRet (dC (.bl false))) dNop)
abbrev wB : DS := (dSeq (dSet 2 (dCall F_L_source [] (dCons (dVar 1) dNil))) (dFor big (iRg1 (dC (.int 8))) (gNm 3) wI))
theorem b_lw : b_law = dSeq (dFor big (iVal (dSl (dBin addZ (dVar 0) (dLst (dCons (dC (.int 0)) dNil))) dNoP (dPt (dC (.int 4))))) (gNm 1) wB) (dRet (dCall F_L_long_right [] dNil)) := rfl
theorem inner_is {n : Nat} {x0 x1 : Sl} : ∀ (j i k : Nat) {A : ZH} {x3 : Sl}, i + j = 8 → j < k → Src A n → ∃ (y3 : Sl) (A' : ZH), dLoop (nxR 0 8) (gNm 3) wI k i [x0, x1, .va (.ref n), x3] A = .nx [x0, x1, .va (.ref n), y3] A' ∧ Kp n A A' ∧ Src A' n
  | 0, i, k, A, x3, hij, hk, h => by
    obtain ⟨k, rfl⟩ : ∃ q, k = q + 1 := ⟨k - 1, by omega⟩
    exact ⟨x3, A, by rw [dLoop, nxR_end (by omega)], Kp.refl _ _, h⟩
  | j + 1, i, k, A, x3, hij, hk, h => by
    obtain ⟨k, rfl⟩ : ∃ q, k = q + 1 := ⟨k - 1, by omega⟩
    obtain ⟨A1, e, k1, s1⟩ := right_is h
    obtain ⟨y3, A2, e2, k2, s2⟩ := inner_is (n := n) (x0 := x0) (x1 := x1) j (i + 1) k (x3 := .va (.int (i : Nat))) (by omega) (by omega) s1
    refine ⟨y3, A2, ?_, k1.trans k2, s2⟩
    rw [dLoop, nxR_at (by omega)]
    dsimp only
    rw [q_gnm, RS.sq_nx]
    have p : wI [x0, x1, .va (.ref n), .va (.int (i : Nat))] A = .nx [x0, x1, .va (.ref n), .va (.int (i : Nat))] A1 := by
      simp only [wI, q_ite, q_not, q_tru, q_call, q_cons, q_var, q_nil, List.getElem?_cons_succ, List.getElem?_cons_zero, R.bd_ok, List.append_nil, e, v_truB, R.st_ok]
      rfl
    show (wI [x0, x1, .va (.ref n), .va (.int (i : Nat))] A).lp _ = _
    rw [p, RS.lp_nx, e2]
theorem nxL_at {A : ZH} {m i : Nat} {zs us : List Z} {z : Z} (h : A.get m = some (.lst zs)) (hu : zs.drop i = z :: us) : nxL m i A = some (some z) := by
  unfold nxL
  rw [h]
  dsimp only
  rw [← List.head?_drop, hu]
  rfl
theorem nxL_end {A : ZH} {m i : Nat} {zs : List Z} (h : A.get m = some (.lst zs)) (hu : zs.drop i = []) : nxL m i A = some none := by
  unfold nxL
  rw [h]
  dsimp only
  rw [← List.head?_drop, hu]
  rfl
theorem outer_is {m : Nat} {cs : List Int} {x0 : Sl} : ∀ (us : List Int) (i k : Nat) {A : ZH} {x1 x2 x3 : Sl}, cs.drop i = us → us.length < k → A.get m = some (.lst (cs.map Z.int)) → m < A.n → ∃ (fr : Fr) (A' : ZH), dLoop (nxL m) (gNm 1) wB k i [x0, x1, x2, x3] A = .nx fr A'
  | [], i, k, A, x1, x2, x3, hu, hk, hm, hlt => by
    obtain ⟨k, rfl⟩ : ∃ q, k = q + 1 := ⟨k - 1, by omega⟩
    exact ⟨[x0, x1, x2, x3], A, by rw [dLoop, nxL_end hm (by rw [← List.map_drop, hu]; rfl)]⟩
  | c :: us, i, k, A, x1, x2, x3, hu, hk, hm, hlt => by
    obtain ⟨k, rfl⟩ : ∃ q, k = q + 1 := ⟨k - 1, by omega⟩
    obtain ⟨A1, e1, g1, s1⟩ := source_is c A
    obtain ⟨y3, A2, e2, k2, s2⟩ := inner_is (n := A.n) (x0 := x0) (x1 := .va (.int c)) 8 0 big (x3 := x3) (by omega) (big_gt (by omega)) s1
    have hm2 : A2.get m = some (.lst (cs.map Z.int)) := by
      rw [k2.same m (Nat.lt_of_lt_of_le hlt g1.le) (by omega), g1.same m hlt]
      exact hm
    obtain ⟨fr, A3, e3⟩ := outer_is us (i + 1) k (A := A2) (x1 := .va (.int c)) (x2 := .va (.ref A.n)) (x3 := y3) (by rw [← List.drop_drop, hu]; rfl) (by simp at hk; omega) hm2 (by have := g1.le; have := k2.le; omega)
    refine ⟨fr, A3, ?_⟩
    have p : wB [x0, .va (.int c), x2, x3] A = .nx [x0, .va (.int c), .va (.ref A.n), y3] A2 := by
      have p1 : (dSet 2 (dCall F_L_source [] (dCons (dVar 1) dNil))) [x0, .va (.int c), x2, x3] A = .nx [x0, .va (.int c), .va (.ref A.n), x3] A1 := by
        simp only [q_set, q_call, q_cons, q_var, q_nil, List.getElem?_cons_succ, List.getElem?_cons_zero, R.bd_ok, List.append_nil, e1, R.st_ok]
        rfl
      have src : ∀ fr B, iRg1 (dC (.int 8)) fr B = .ok (nxR 0 8) B := fun fr B => rfl
      show dSeq _ _ _ _ = _
      rw [q_seq, p1, RS.sq_nx, q_for, src, R.st_ok, e2]
    rw [dLoop, nxL_at hm (by rw [← List.map_drop, hu]; rfl)]
    dsimp only
    rw [q_gnm, RS.sq_nx]
    show (wB [x0, .va (.int c), x2, x3] A).lp _ = _
    rw [p, RS.lp_nx, e3]
theorem law_of (hL : ∀ A, ∃ A', F_L_long_right [] A = .ok (.bl true) A') (ns : List Int) (hn : ns.length ≤ 63) : ∃ A', F_law [.lit (ns.map Z.int)] ZH.nil = .ok (.bl true) A' := by
  let B : ZH := ((ZH.nil.push (.lst [.int 0])).push (.lst ((ns ++ [0]).map Z.int))).push (.lst (cutZ ((ns ++ [0]).map Z.int) none (some 4)))
  have src : iVal (dSl (dBin addZ (dVar 0) (dLst (dCons (dC (.int 0)) dNil))) dNoP (dPt (dC (.int 4)))) [.va (.lit (ns.map Z.int)), .un, .un, .un] ZH.nil = .ok (nxL 2) B := by
    have s1 : 1 ≤ sizeLine := small (by decide)
    have s2 : ns.length + 1 ≤ sizeLine := small (by omega)
    have n0 : ZH.nil.n = 0 := rfl
    unfold iVal
    simp [s1, s2, n0, ZH.get_push, B]
  have cut : cutZ ((ns ++ [0]).map Z.int) none (some 4) = ((ns ++ [0]).take 4).map Z.int := by
    unfold cutZ
    have e : (some (4 : Int)) = some ((4 : Nat) : Int) := rfl
    rw [e, HT.sIx_nat, HT.sIx_none]
    simp only [List.drop_zero, Nat.sub_zero, List.map_take]
    rw [List.take_eq_take_iff]
    simp
  have hm : B.get 2 = some (.lst (((ns ++ [0]).take 4).map Z.int)) := by
    rw [← cut]
    exact ZH.get_push_same _ _
  obtain ⟨fr, A1, e⟩ := outer_is (m := 2) (cs := (ns ++ [0]).take 4) (x0 := .va (.lit (ns.map Z.int))) _ 0 big (A := B) (x1 := .un) (x2 := .un) (x3 := .un) rfl (big_gt (by simp; omega)) hm (by show 2 < 3; decide)
  obtain ⟨A2, e2⟩ := hL A1
  refine ⟨A2, ?_⟩
  show (match b_law [.va (.lit (ns.map Z.int)), .un, .un, .un] ZH.nil with
    | .rt z A' => R.ok z A'
    | .nx _ A' => .ok .non A'
    | .ex x _ A' => .ex x A'
    | _ => .no) = _
  rw [b_lw, q_seq, q_for, src, R.st_ok, e, RS.sq_nx, q_ret, q_call, q_nil, R.bd_ok]
  show (match (R.st (F_L_long_right [] A1) fr fun z A1 => .rt z A1) with
    | .rt z A' => R.ok z A'
    | .nx _ A' => .ok .non A'
    | .ex x _ A' => .ex x A'
    | _ => .no) = _
  rw [e2]
  rfl
end Lw

namespace Lw
open PySem PySem.Spec Zed L2
/-- a text and what is said of it -/
abbrev Pr := Str × (Nat ⊕ List Str)
def vz : Nat ⊕ List Str → Z
  | .inl i => .int (i : Nat)
  | .inr cs => .tup (cs.map Z.str)
def okp (p : Pr) : Bool := decide (p.1.cps.toList.length ≤ 200) && match p.2 with
  | .inl i => decide (auto .bg 0 false p.1.cps.toList 0 = some i)
  | .inr cs => decide (auto .bg 0 false p.1.cps.toList 0 = none) && decide ((four.filter fun c => decide (c ∈ p.1.cps.toList)).map (fun c => tx [c]) = cs)
theorem rz_ok {p : Pr} (h : okp p = true) : rz p.1.cps.toList = vz p.2 ∧ p.1.cps.toList.length ≤ 200 := by
  obtain ⟨s, v⟩ := p
  unfold okp at h
  obtain ⟨h1, h2⟩ := Bool.and_eq_true_iff.mp h
  refine ⟨?_, of_decide_eq_true h1⟩
  cases v with
  | inl i =>
    have e := of_decide_eq_true h2
    unfold rz
    rw [e]
    rfl
  | inr cs =>
    obtain ⟨h3, h4⟩ := Bool.and_eq_true_iff.mp h2
    have e := of_decide_eq_true h3
    have e2 := of_decide_eq_true h4
    unfold rz
    rw [e]
    dsimp only
    rw [nm_strs, e2]
    rfl
theorem said_pr {p : Pr} (h : okp p = true) (A : ZH) : ∃ A', F_L_said [.str p.1] A = .ok (vz p.2) A' ∧ Gr A A' := by
  obtain ⟨e, hl⟩ := rz_ok h
  obtain ⟨A', e1, g⟩ := said_is hl A
  rw [← str_tx, e] at e1
  exact ⟨A', e1, g⟩
theorem ne_vz (v : Nat ⊕ List Str) (A : ZH) : neZ (vz v) (vz v) A = .ok (.bl false) A := by
  cases v with
  | inl i => simp [vz]
  | inr cs => exact ne_strs cs A
theorem ask_is {p : Pr} (h : okp p = true) {d e : DE} {fr : Fr} (hd : ∀ B, d fr B = .ok (.str p.1) B) (he : ∀ B, e fr B = .ok (vz p.2) B) (A : ZH) : ∃ A', (dTst (dBin neZ (dCall F_L_said [] (dCons d dNil)) e)) fr A = .ok false A' ∧ Gr A A' := by
  obtain ⟨A1, e1, g1⟩ := said_pr h A
  refine ⟨A1, ?_, g1⟩
  simp [hd, e1, he, ne_vz]
theorem neg1 (fr : Fr) (B : ZH) : (dUn negZ (dC (.int 1))) fr B = .ok (.int (-1)) B := rfl
theorem ask_big {s : Str} (h1 : 200 < s.cps.toList.length) (h2 : s.cps.toList.length ≤ 1000) {d : DE} {fr : Fr} (hd : ∀ B, d fr B = .ok (.str s) B) (A : ZH) : (dTst (dBin neZ (dCall F_L_said [] (dCons d dNil)) (dUn negZ (dC (.int 1))))) fr A = .ok false A := by
  have e := said_big h1 h2 A
  rw [← str_tx] at e
  simp [hd, e]
theorem ask_odd {z : Z} {A : ZH} {t : BT} (h : tyZ z A = some t) (hs : isB t .str = false) {d : DE} {fr : Fr} (hd : d fr A = .ok z A) : (dTst (dBin neZ (dCall F_L_said [] (dCons d dNil)) (dUn negZ (dC (.int 1))))) fr A = .ok false A := by
  have e := said_odd h hs
  simp [hd, e]
def sDeep : Str := tx (List.replicate 98 40 ++ [120] ++ List.replicate 98 41 ++ [61, 49])
def sX (n : Nat) : Str := tx ([49, 61] ++ List.replicate n 120)
def sL (n : Nat) : Str := tx (List.replicate n 40)
def sH : Str := tx ([49, 61, 122] ++ List.replicate 197 94)
abbrev xDeep : DE := (dBin addZ (dBin addZ (dBin addZ (dBin mulZ (dC (.str "(")) (dC (.int 98))) (dC (.str "x"))) (dBin mulZ (dC (.str ")")) (dC (.int 98)))) (dC (.str "=1")))
abbrev xX (n : Int) : DE := (dBin addZ (dC (.str "1=")) (dBin mulZ (dC (.str "x")) (dC (.int n))))
abbrev xL (n : Int) : DE := (dBin mulZ (dC (.str "(")) (dC (.int n)))
abbrev xH : DE := (dBin addZ (dC (.str "1=z")) (dBin mulZ (dC (.str "^")) (dC (.int 197))))
theorem mulS {s t : Str} {k : Int} (h : mulSOk s.length k = true) (e : Txt.mul s k = t) (A : ZH) : mulZ (.str s) (.int k) A = .ok (.str t) A := by
  show (if mulSOk s.length k = true then R.ok (Z.str (Txt.mul s k)) A else .no) = _
  rw [if_pos h, e]
theorem addS {s t u : Str} (h : s.length + t.length ≤ 1000) (e : s ++ t = u) (A : ZH) : addZ (.str s) (.str t) A = .ok (.str u) A := by
  rw [v_addS, if_pos (small h), e]
theorem xDeep_is (fr : Fr) (A : ZH) : xDeep fr A = .ok (.str sDeep) A := by
  simp only [xDeep, q_bin, q_c, R.bd_ok]
  rw [mulS (t := sL 98) (by decide +kernel) (by decide +kernel), R.bd_ok, addS (u := tx (List.replicate 98 40 ++ [120])) (by decide +kernel) (by decide +kernel), R.bd_ok, mulS (t := tx (List.replicate 98 41)) (by decide +kernel) (by decide +kernel), R.bd_ok, addS (u := tx (List.replicate 98 40 ++ [120] ++ List.replicate 98 41)) (by decide +kernel) (by decide +kernel), R.bd_ok, addS (u := sDeep) (by decide +kernel) (by decide +kernel)]
theorem xX_198 (fr : Fr) (A : ZH) : xX 198 fr A = .ok (.str (sX 198)) A := by
  simp only [xX, q_bin, q_c, R.bd_ok]
  rw [mulS (t := tx (List.replicate 198 120)) (by decide +kernel) (by decide +kernel), R.bd_ok, addS (u := sX 198) (by decide +kernel) (by decide +kernel)]
theorem xX_199 (fr : Fr) (A : ZH) : xX 199 fr A = .ok (.str (sX 199)) A := by
  simp only [xX, q_bin, q_c, R.bd_ok]
  rw [mulS (t := tx (List.replicate 199 120)) (by decide +kernel) (by decide +kernel), R.bd_ok, addS (u := sX 199) (by decide +kernel) (by decide +kernel)]
theorem xL_200 (fr : Fr) (A : ZH) : xL 200 fr A = .ok (.str (sL 200)) A := by
  simp only [xL, q_bin, q_c, R.bd_ok]
  rw [mulS (t := sL 200) (by decide +kernel) (by decide +kernel)]
theorem xL_201 (fr : Fr) (A : ZH) : xL 201 fr A = .ok (.str (sL 201)) A := by
  simp only [xL, q_bin, q_c, R.bd_ok]
  rw [mulS (t := sL 201) (by decide +kernel) (by decide +kernel)]
theorem xH_is (fr : Fr) (A : ZH) : xH fr A = .ok (.str sH) A := by
  simp only [xH, q_bin, q_c, R.bd_ok]
  rw [mulS (t := tx (List.replicate 197 94)) (by decide +kernel) (by decide +kernel), R.bd_ok, addS (u := sH) (by decide +kernel) (by decide +kernel)]
theorem tup1 (s : Str) (fr : Fr) (B : ZH) : (dTup (dCons (dC (.str s)) dNil)) fr B = .ok (vz (.inr [s])) B := by
  have sz : 1 ≤ sizeLine := small (by decide)
  simp [sz, vz]
theorem or3 {a b c : DT} {fr : Fr} {A A1 A2 A3 : ZH} (h1 : a fr A = .ok false A1) (h2 : b fr A1 = .ok false A2) (h3 : c fr A2 = .ok false A3) : dIte (dOr a (dOr b c)) (dRet (dC (.bl false))) dNop fr A = .nx fr A3 := by
  rw [q_ite, q_or, h1, R.bd_ok, if_neg (by simp), q_or, h2, R.bd_ok, if_neg (by simp), h3, R.st_ok, if_neg (by simp)]
  rfl
abbrev g1 : DS := (dIte (dOr (dTst (dBin neZ (dCall F_L_said [] (dCons (dVar 0) dNil)) (dTup (dCons (dC (.str "x")) dNil)))) (dOr (dTst (dBin neZ (dCall F_L_said [] (dCons (xX 198) dNil)) (dTup (dCons (dC (.str "x")) dNil)))) (dTst (dBin neZ (dCall F_L_said [] (dCons (xX 199) dNil)) (dUn negZ (dC (.int 1))))))) (dRet (dC (.bl false))) dNop)
abbrev g2 : DS := (dIte (dOr (dTst (dBin neZ (dCall F_L_said [] (dCons (xL 200) dNil)) (dC (.int 200)))) (dOr (dTst (dBin neZ (dCall F_L_said [] (dCons (xL 201) dNil)) (dUn negZ (dC (.int 1))))) (dTst (dBin neZ (dCall F_L_said [] (dCons xH dNil)) (dTup (dCons (dC (.str "z")) dNil)))))) (dRet (dC (.bl false))) dNop)
theorem g1_is {x1 x2 x3 x4 : Sl} (A : ZH) : ∃ A', g1 [.va (.str sDeep), x1, x2, x3, x4] A = .nx [.va (.str sDeep), x1, x2, x3, x4] A' := by
  obtain ⟨A1, e1, _⟩ := ask_is (p := (sDeep, .inr ["x"])) (by decide +kernel) (d := dVar 0) (e := dTup (dCons (dC (.str "x")) dNil)) (fr := [.va (.str sDeep), x1, x2, x3, x4]) (fun B => by simp) (fun B => tup1 _ _ B) A
  obtain ⟨A2, e2, _⟩ := ask_is (p := (sX 198, .inr ["x"])) (by decide +kernel) (d := xX 198) (e := dTup (dCons (dC (.str "x")) dNil)) (fr := [.va (.str sDeep), x1, x2, x3, x4]) (fun B => xX_198 _ B) (fun B => tup1 _ _ B) A1
  exact ⟨A2, or3 e1 e2 (ask_big (s := sX 199) (by decide +kernel) (by decide +kernel) (fun B => xX_199 _ B) A2)⟩
theorem g2_is {fr : Fr} (A : ZH) : ∃ A', g2 fr A = .nx fr A' := by
  obtain ⟨A1, e1, _⟩ := ask_is (p := (sL 200, .inl 200)) (by decide +kernel) (d := xL 200) (e := dC (.int 200)) (fr := fr) (fun B => xL_200 _ B) (fun B => rfl) A
  obtain ⟨A3, e3, _⟩ := ask_is (p := (sH, .inr ["z"])) (by decide +kernel) (d := xH) (e := dTup (dCons (dC (.str "z")) dNil)) (fr := fr) (fun B => xH_is _ B) (fun B => tup1 _ _ B) A1
  exact ⟨A3, or3 e1 (ask_big (s := sL 201) (by decide +kernel) (by decide +kernel) (fun B => xL_201 _ B) A1) e3⟩
end Lw

namespace Lw
open PySem PySem.Spec Zed L2
abbrev oI : DI := (iVal (dTup (dCons (dC .non) (dCons (dC (.int 5)) (dCons (dLst (dCons (dC (.str "x=x")) dNil)) (dCons (dTup (dCons (dC (.str "x")) (dCons (dC (.str "x")) dNil))) (dCons (dC (.bl true)) (dCons dDict0 (dCons (dLst (dCons (dC (.int 1)) dNil)) dNil)))))))))
abbrev oB : DS := (dIte (dTst (dBin neZ (dCall F_L_said [] (dCons (dVar 1) dNil)) (dUn negZ (dC (.int 1))))) (dRet (dC (.bl false))) dNop)
def odds (k : Nat) : List Z := [.non, .int 5, .ref k, .tup [.str (Str.ofString "x"), .str (Str.ofString "x")], .bl true, .ref (k + 1), .ref (k + 2)]
def oH (A : ZH) : ZH := ((A.push (.lst [.str (Str.ofString "x=x")])).push (.dct [])).push (.lst [.int 1])
theorem oI_is (fr : Fr) (A : ZH) : oI fr A = .ok (nxS (odds A.n)) (oH A) := by
  have s1 : 1 ≤ sizeLine := small (by decide)
  have s2 : 2 ≤ sizeLine := small (by decide)
  have s7 : 7 ≤ sizeLine := small (by decide)
  unfold oI iVal
  simp [s1, s2, s7, odds, oH]
theorem odd_ty (A : ZH) : ∀ z ∈ odds A.n, ∃ t, tyZ z (oH A) = some t ∧ isB t .str = false := by
  intro z hz
  simp only [odds, List.mem_cons, List.not_mem_nil, or_false] at hz
  rcases hz with rfl | rfl | rfl | rfl | rfl | rfl | rfl
  · exact ⟨_, rfl, rfl⟩
  · exact ⟨_, rfl, rfl⟩
  · have h1 : ¬ A.n = A.n + 1 + 1 := by omega
    exact ⟨.lst, by simp [tyZ, oH, ZH.get_push, h1], rfl⟩
  · exact ⟨_, rfl, rfl⟩
  · exact ⟨_, rfl, rfl⟩
  · exact ⟨.dct, by simp [tyZ, oH, ZH.get_push], rfl⟩
  · exact ⟨.lst, by simp [tyZ, oH, ZH.get_push], rfl⟩
theorem oddloop_is {zs : List Z} {B : ZH} (h : ∀ z ∈ zs, ∃ t, tyZ z B = some t ∧ isB t .str = false) {x0 x2 x3 x4 : Sl} : ∀ (us : List Z) (i k : Nat) (x1 : Sl), zs.drop i = us → us.length < k → ∃ y1, dLoop (nxS zs) (gNm 1) oB k i [x0, x1, x2, x3, x4] B = .nx [x0, y1, x2, x3, x4] B
  | [], i, k, x1, hu, hk => by
    obtain ⟨k, rfl⟩ : ∃ q, k = q + 1 := ⟨k - 1, by omega⟩
    exact ⟨x1, by rw [dLoop, nxS_end hu]⟩
  | z :: us, i, k, x1, hu, hk => by
    obtain ⟨k, rfl⟩ : ∃ q, k = q + 1 := ⟨k - 1, by omega⟩
    have hz : z ∈ zs := List.mem_of_mem_drop (i := i) (by rw [hu]; exact List.mem_cons_self)
    obtain ⟨t, ht, hs⟩ := h z hz
    obtain ⟨y1, e⟩ := oddloop_is h (x0 := x0) (x2 := x2) (x3 := x3) (x4 := x4) us (i + 1) k (.va z) (drop_next hu) (by simp at hk; omega)
    refine ⟨y1, ?_⟩
    have p : oB [x0, .va z, x2, x3, x4] B = .nx [x0, .va z, x2, x3, x4] B := by
      have a := ask_odd ht hs (d := dVar 1) (fr := [x0, .va z, x2, x3, x4]) rfl
      show dIte _ _ _ _ _ = _
      rw [q_ite, a, R.st_ok, if_neg (by simp)]
      rfl
    rw [dLoop, nxS_at hu]
    dsimp only
    rw [q_gnm, RS.sq_nx]
    show (oB [x0, .va z, x2, x3, x4] B).lp _ = _
    rw [p, RS.lp_nx, e]
def pz (p : Pr) : Z := .tup [.str p.1, vz p.2]
def ps1 : List Pr := [(Str.ofString "1=1", .inr []), (Str.ofString "(1)^=(1)~", .inr []), (Str.ofString "zw=xy", .inr [Str.ofString "w", Str.ofString "x", Str.ofString "y", Str.ofString "z"]), (Str.ofString "", .inl 0), (Str.ofString "=", .inl 0), (Str.ofString "x=", .inl 2), (Str.ofString "x", .inl 1)]
def ps2 : List Pr := [(Str.ofString "1x=x", .inl 1), (Str.ofString "x1=x", .inl 1), (Str.ofString "x==x", .inl 2), (Str.ofString "x=x=x", .inl 3), (Str.ofString "()=1", .inl 1), (Str.ofString "^x=x", .inl 0), (Str.ofString "x=1^", .inl 3)]
def ps3 : List Pr := [(Str.ofString "(x=x)", .inl 2), (Str.ofString "x)=x", .inl 1), (Str.ofString "(x=x", .inl 2), (Str.ofString "x = x", .inl 1), (Str.ofString "x=x ", .inl 3), (Str.ofString "(1x)=x", .inl 2)]
theorem ps_ok : ∀ p ∈ ps1 ++ ps2 ++ ps3, okp p = true := by
  have h : (ps1 ++ ps2 ++ ps3).all okp = true := by decide +kernel
  exact fun p hp => List.all_eq_true.mp h p hp
abbrev q1 : DS := (dSet 2 (dLst (dCons (dTup (dCons (dC (.str "1=1")) (dCons (dTup dNil) dNil))) (dCons (dTup (dCons (dC (.str "(1)^=(1)~")) (dCons (dTup dNil) dNil))) (dCons (dTup (dCons (dC (.str "zw=xy")) (dCons (dTup (dCons (dC (.str "w")) (dCons (dC (.str "x")) (dCons (dC (.str "y")) (dCons (dC (.str "z")) dNil))))) dNil))) (dCons (dTup (dCons (dC (.str "")) (dCons (dC (.int 0)) dNil))) (dCons (dTup (dCons (dC (.str "=")) (dCons (dC (.int 0)) dNil))) (dCons (dTup (dCons (dC (.str "x=")) (dCons (dC (.int 2)) dNil))) (dCons (dTup (dCons (dC (.str "x")) (dCons (dC (.int 1)) dNil))) dNil)))))))))
abbrev q2 : DS := (dSet 2 (dBin addZ (dVar 2) (dLst (dCons (dTup (dCons (dC (.str "1x=x")) (dCons (dC (.int 1)) dNil))) (dCons (dTup (dCons (dC (.str "x1=x")) (dCons (dC (.int 1)) dNil))) (dCons (dTup (dCons (dC (.str "x==x")) (dCons (dC (.int 2)) dNil))) (dCons (dTup (dCons (dC (.str "x=x=x")) (dCons (dC (.int 3)) dNil))) (dCons (dTup (dCons (dC (.str "()=1")) (dCons (dC (.int 1)) dNil))) (dCons (dTup (dCons (dC (.str "^x=x")) (dCons (dC (.int 0)) dNil))) (dCons (dTup (dCons (dC (.str "x=1^")) (dCons (dC (.int 3)) dNil))) dNil))))))))))
abbrev q3 : DS := (dSet 2 (dBin addZ (dVar 2) (dLst (dCons (dTup (dCons (dC (.str "(x=x)")) (dCons (dC (.int 2)) dNil))) (dCons (dTup (dCons (dC (.str "x)=x")) (dCons (dC (.int 1)) dNil))) (dCons (dTup (dCons (dC (.str "(x=x")) (dCons (dC (.int 2)) dNil))) (dCons (dTup (dCons (dC (.str "x = x")) (dCons (dC (.int 1)) dNil))) (dCons (dTup (dCons (dC (.str "x=x ")) (dCons (dC (.int 3)) dNil))) (dCons (dTup (dCons (dC (.str "(1x)=x")) (dCons (dC (.int 2)) dNil))) dNil)))))))))
theorem q1_is {x0 x1 x2 x3 x4 : Sl} (A : ZH) : q1 [x0, x1, x2, x3, x4] A = .nx [x0, x1, .va (.ref A.n), x3, x4] (A.push (.lst (ps1.map pz))) := by
  have s0 : 0 ≤ sizeLine := Nat.zero_le _
  have s2 : 2 ≤ sizeLine := small (by decide)
  have s4 : 4 ≤ sizeLine := small (by decide)
  have s7 : 7 ≤ sizeLine := small (by decide)
  simp [s2, s4, s7, ps1, pz, vz]
theorem q2_is {x0 x1 x3 x4 : Sl} {m : Nat} {A : ZH} (h : A.get m = some (.lst (ps1.map pz))) (hm : m < A.n) : q2 [x0, x1, .va (.ref m), x3, x4] A = .nx [x0, x1, .va (.ref (A.n + 1)), x3, x4] ((A.push (.lst (ps2.map pz))).push (.lst ((ps1 ++ ps2).map pz))) := by
  have s2 : 2 ≤ sizeLine := small (by decide)
  have s7 : 7 ≤ sizeLine := small (by decide)
  have l1 : ps1.length = 7 := rfl
  have s14 : 14 ≤ sizeLine := small (by decide)
  have e : (A.push (.lst (ps2.map pz))).get m = some (.lst (ps1.map pz)) := by rw [ZH.get_push_lt _ _ hm]; exact h
  have e2 : (dLst (dCons (dTup (dCons (dC (.str "1x=x")) (dCons (dC (.int 1)) dNil))) (dCons (dTup (dCons (dC (.str "x1=x")) (dCons (dC (.int 1)) dNil))) (dCons (dTup (dCons (dC (.str "x==x")) (dCons (dC (.int 2)) dNil))) (dCons (dTup (dCons (dC (.str "x=x=x")) (dCons (dC (.int 3)) dNil))) (dCons (dTup (dCons (dC (.str "()=1")) (dCons (dC (.int 1)) dNil))) (dCons (dTup (dCons (dC (.str "^x=x")) (dCons (dC (.int 0)) dNil))) (dCons (dTup (dCons (dC (.str "x=1^")) (dCons (dC (.int 3)) dNil))) dNil)))))))) [x0, x1, .va (.ref m), x3, x4] A = .ok (.ref A.n) (A.push (.lst (ps2.map pz))) := by
    simp [s2, s7, ps2, pz, vz]
  have v : dVar 2 [x0, x1, .va (.ref m), x3, x4] A = .ok (.ref m) A := rfl
  show dSet 2 (dBin addZ (dVar 2) _) _ _ = _
  rw [q_set, q_bin, v, R.bd_ok, e2, R.bd_ok, v_addR, v_itR, v_itR, e, ZH.get_push_same]
  dsimp only
  rw [if_pos (by rw [List.length_map, List.length_map]; exact s14), ← List.map_append]
  simp
theorem q3_is {x0 x1 x3 x4 : Sl} {m : Nat} {A : ZH} (h : A.get m = some (.lst ((ps1 ++ ps2).map pz))) (hm : m < A.n) : q3 [x0, x1, .va (.ref m), x3, x4] A = .nx [x0, x1, .va (.ref (A.n + 1)), x3, x4] ((A.push (.lst (ps3.map pz))).push (.lst ((ps1 ++ ps2 ++ ps3).map pz))) := by
  have s2 : 2 ≤ sizeLine := small (by decide)
  have s6 : 6 ≤ sizeLine := small (by decide)
  have s20 : 20 ≤ sizeLine := small (by decide)
  have e : (A.push (.lst (ps3.map pz))).get m = some (.lst ((ps1 ++ ps2).map pz)) := by rw [ZH.get_push_lt _ _ hm]; exact h
  have v : dVar 2 [x0, x1, .va (.ref m), x3, x4] A = .ok (.ref m) A := rfl
  have e2 : (dLst (dCons (dTup (dCons (dC (.str "(x=x)")) (dCons (dC (.int 2)) dNil))) (dCons (dTup (dCons (dC (.str "x)=x")) (dCons (dC (.int 1)) dNil))) (dCons (dTup (dCons (dC (.str "(x=x")) (dCons (dC (.int 2)) dNil))) (dCons (dTup (dCons (dC (.str "x = x")) (dCons (dC (.int 1)) dNil))) (dCons (dTup (dCons (dC (.str "x=x ")) (dCons (dC (.int 3)) dNil))) (dCons (dTup (dCons (dC (.str "(1x)=x")) (dCons (dC (.int 2)) dNil))) dNil))))))) [x0, x1, .va (.ref m), x3, x4] A = .ok (.ref A.n) (A.push (.lst (ps3.map pz))) := by
    simp [s2, s6, ps3, pz, vz]
  show dSet 2 (dBin addZ (dVar 2) _) _ _ = _
  rw [q_set, q_bin, v, R.bd_ok, e2, R.bd_ok, v_addR, v_itR, v_itR, e, ZH.get_push_same]
  dsimp only
  rw [if_pos (by rw [List.length_map, List.length_map]; exact s20), ← List.map_append]
  simp
/-- every text is asked; none is answered otherwise -/
theorem pairs_is {m : Nat} {ps : List Pr} (hp : ∀ p ∈ ps, okp p = true) {fr : Fr} {x0 x1 x2 : Sl} (hf : fr = [x0, x1, x2, .un, .un]) : ∀ (us : List Pr) (i n : Nat) {A : ZH}, ps.drop i = us → us.length < n → A.get m = some (.lst (ps.map pz)) → m < A.n →
    ∃ A' : ZH, dLcL (nxL m) (.many [3, 4]) (dTst (dBin neZ (dCall F_L_said [] (dCons (dVar 3) dNil)) (dVar 4))) (dVar 3) fr n i [] A = .ok (.ref A'.n) (A'.push (.lst []))
  | [], i, n, A, hu, hn, hm, hlt => by
    obtain ⟨n, rfl⟩ : ∃ k, n = k + 1 := ⟨n - 1, by omega⟩
    refine ⟨A, ?_⟩
    rw [dLcL, nxL_end hm (by rw [← List.map_drop, hu]; rfl)]
    rfl
  | p :: us, i, n, A, hu, hn, hm, hlt => by
    obtain ⟨n, rfl⟩ : ∃ k, n = k + 1 := ⟨n - 1, by omega⟩
    have hpp : okp p = true := hp p (List.mem_of_mem_drop (i := i) (by rw [hu]; exact List.mem_cons_self))
    obtain ⟨A1, e1, gr⟩ := ask_is hpp (d := dVar 3) (e := dVar 4) (fr := [x0, x1, x2, .va (.str p.1), .va (vz p.2)]) (fun B => rfl) (fun B => rfl) A
    obtain ⟨A2, e2⟩ := pairs_is hp hf us (i + 1) n (A := A1) (drop_next hu) (by simp at hn; omega) (by rw [gr.same m hlt]; exact hm) (Nat.lt_of_lt_of_le hlt gr.le)
    refine ⟨A2, ?_⟩
    subst hf
    rw [dLcL, nxL_at hm (z := pz p) (us := us.map pz) (by rw [← List.map_drop, hu]; rfl)]
    dsimp only [CT.set, pz]
    have se : setAll [3, 4] [.str p.1, vz p.2] [x0, x1, x2, .un, .un] = some [x0, x1, x2, .va (.str p.1), .va (vz p.2)] := rfl
    rw [se]
    dsimp only
    rw [e1, R.bdn_ok, if_neg (by simp), e2]
theorem b_long : b_L_long_right = dSeq (dSet 0 xDeep) (dSeq g1 (dSeq g2 (dSeq (dFor big oI (gNm 1) oB) (dSeq q1 (dSeq q2 (dSeq q3 (dRet (dBin eqZ (dLc big (iVal (dVar 2)) (.many [3, 4]) (dTst (dBin neZ (dCall F_L_said [] (dCons (dVar 3) dNil)) (dVar 4))) (dVar 3) [3, 4]) (dLst dNil))))))))) := rfl
theorem long_is (A : ZH) : ∃ A', F_L_long_right [] A = .ok (.bl true) A' := by
  have e0 : dSet 0 xDeep [.un, .un, .un, .un, .un] A = .nx [.va (.str sDeep), .un, .un, .un, .un] A := by
    rw [q_set, xDeep_is]
    rfl
  obtain ⟨A1, e1⟩ := g1_is (x1 := .un) (x2 := .un) (x3 := .un) (x4 := .un) A
  obtain ⟨A2, e2⟩ := g2_is (fr := [.va (.str sDeep), .un, .un, .un, .un]) A1
  obtain ⟨y1, e3⟩ := oddloop_is (odd_ty A2) (x0 := .va (.str sDeep)) (x2 := .un) (x3 := .un) (x4 := .un) _ 0 big .un rfl (big_gt (by simp [odds]))
  have e4 := q1_is (x0 := .va (.str sDeep)) (x1 := y1) (x2 := .un) (x3 := .un) (x4 := .un) (oH A2)
  have e5 := q2_is (x0 := .va (.str sDeep)) (x1 := y1) (x3 := .un) (x4 := .un) (m := (oH A2).n) (A := (oH A2).push (.lst (ps1.map pz))) (ZH.get_push_same _ _) (by simp)
  obtain ⟨B, hB⟩ : ∃ B, B = (((oH A2).push (.lst (ps1.map pz))).push (.lst (ps2.map pz))).push (.lst ((ps1 ++ ps2).map pz)) := ⟨_, rfl⟩
  have nB : B.n = (oH A2).n + 3 := by rw [hB]; simp
  have gB : B.get ((oH A2).n + 2) = some (.lst ((ps1 ++ ps2).map pz)) := by
    rw [hB]
    have e : (oH A2).n + 2 = (((oH A2).push (.lst (ps1.map pz))).push (.lst (ps2.map pz))).n := by simp
    rw [e]
    exact ZH.get_push_same _ _
  have e6 := q3_is (x0 := .va (.str sDeep)) (x1 := y1) (x3 := .un) (x4 := .un) (m := (oH A2).n + 2) (A := B) gB (by omega)
  obtain ⟨C, hC⟩ : ∃ C, C = (B.push (.lst (ps3.map pz))).push (.lst ((ps1 ++ ps2 ++ ps3).map pz)) := ⟨_, rfl⟩
  have nC : C.n = B.n + 2 := by rw [hC]; simp
  have gC : C.get (B.n + 1) = some (.lst ((ps1 ++ ps2 ++ ps3).map pz)) := by
    rw [hC]
    have e : B.n + 1 = (B.push (.lst (ps3.map pz))).n := by simp
    rw [e]
    exact ZH.get_push_same _ _
  obtain ⟨D, e7⟩ := pairs_is (m := B.n + 1) ps_ok (fr := [.va (.str sDeep), y1, .va (.ref (B.n + 1)), .un, .un]) rfl _ 0 big (A := C) rfl (big_gt (by decide)) gC (by omega)
  have src : iVal (dVar 2) [.va (.str sDeep), y1, .va (.ref (B.n + 1)), .un, .un] C = .ok (nxL (B.n + 1)) C := by
    unfold iVal
    simp [gC]
  refine ⟨(D.push (.lst [])).push (.lst []), ?_⟩
  have e8 : (dBin eqZ (dLc big (iVal (dVar 2)) (.many [3, 4]) (dTst (dBin neZ (dCall F_L_said [] (dCons (dVar 3) dNil)) (dVar 4))) (dVar 3) [3, 4]) (dLst dNil)) [.va (.str sDeep), y1, .va (.ref (B.n + 1)), .un, .un] C = .ok (.bl true) ((D.push (.lst [])).push (.lst [])) := by
    rw [q_bin, q_lc, src, R.bd_ok]
    have wf : wipeF [.va (.str sDeep), y1, .va (.ref (B.n + 1)), .un, .un] [3, 4] = [.va (.str sDeep), y1, .va (.ref (B.n + 1)), .un, .un] := rfl
    rw [wf, e7, R.bd_ok]
    have l0 : (dLst dNil) [.va (.str sDeep), y1, .va (.ref (B.n + 1)), .un, .un] (D.push (.lst [])) = .ok (.ref (D.n + 1)) ((D.push (.lst [])).push (.lst [])) := by
      have s0 : ([] : List Z).length ≤ sizeLine := Nat.zero_le _
      rw [q_lst, q_nil, R.bd_ok, if_pos s0]
      simp
    rw [l0, R.bd_ok]
    have d1 : datZ ((D.push (.lst [])).push (.lst [])) deep (.ref D.n) = some (.list []) := by
      show (match ((D.push (.lst [])).push (.lst [])).get D.n with
        | some (ZO.lst zs) => (mapO (datZ _ 11) zs).map PyData.list
        | _ => none) = _
      rw [ZH.get_push_lt _ _ (by simp), ZH.get_push_same]
      rfl
    have d2 : datZ ((D.push (.lst [])).push (.lst [])) deep (.ref (D.n + 1)) = some (.list []) := by
      show (match ((D.push (.lst [])).push (.lst [])).get (D.n + 1) with
        | some (ZO.lst zs) => (mapO (datZ _ 11) zs).map PyData.list
        | _ => none) = _
      have e : D.n + 1 = (D.push (.lst [])).n := by simp
      rw [e, ZH.get_push_same]
      rfl
    show (match datZ _ deep (.ref D.n), datZ _ deep (.ref (D.n + 1)) with
      | some d, some e => R.ok (Z.bl (PyData.eqv d e)) _
      | _, _ => .no) = _
    rw [d1, d2]
    rfl
  show (match b_L_long_right [.un, .un, .un, .un, .un] A with
    | .rt z A' => R.ok z A'
    | .nx _ A' => .ok .non A'
    | .ex x _ A' => .ex x A'
    | _ => .no) = _
  rw [b_long, q_seq, e0, RS.sq_nx, q_seq, e1, RS.sq_nx, q_seq, e2, RS.sq_nx, q_seq, q_for, oI_is, R.st_ok, e3, RS.sq_nx, q_seq, e4, RS.sq_nx, q_seq]
  have n1 : ((oH A2).push (.lst (ps1.map pz))).n + 1 = (oH A2).n + 2 := by simp
  rw [n1] at e5
  rw [e5, RS.sq_nx, q_seq, ← hB, e6, RS.sq_nx, ← hC, q_ret, e8]
  rfl
theorem law_ok : ∀ ns : List Int, ns.length ≤ 63 → (∀ z ∈ ns, Builtin.Int.intBits z ≤ 1048576) → ∃ A', F_law [.lit (ns.map Z.int)] ZH.nil = .ok (.bl true) A' := fun ns h _ => law_of long_is ns h
end Lw

open PySem PySem.W PyProof.Rows
set_option maxRecDepth 100000 in
set_option maxHeartbeats 0 in
open_top top81 for PySem.Challenge.rw_letterfolds_k81_identities_that_are_read
open PySem PySem.W PyProof.Rows
set_option maxRecDepth 100000 in
set_option maxHeartbeats 0 in
theorem PySem.Challenge.cw_letterfolds_k81_identities_that_are_read_holds : PySem.Challenge.rw_letterfolds_k81_identities_that_are_read.Holds := by
  w_on
  o_law
  k_head
  (case hw => w_witness2)
  k_fill
  refine Zed.walkZ (l := PySem.Challenge.rw_letterfolds_k81_identities_that_are_read) (n := 63) (kz := 608) (x := "_law_script") (F := Lw.F_law) rfl (by decide) rfl (by decide) Lw.law_ok (fun w h Y => kIn_of Y) ?FF
  intro w mg fa h KX G hmg
  refine' Lw.all_mk KX G hmg ?AFoldError ?ANoTerm ?AReader ?aReader_init ?lReader_init ?cReader_init ?kReader_init ?iReader_init ?mkReader ?kcReader ?aReader_sign ?lReader_sign ?cReader_sign ?kReader_sign ?iReader_sign ?aReader_demand ?lReader_demand ?cReader_demand ?kReader_demand ?iReader_demand ?aReader_is_factor ?lReader_is_factor ?cReader_is_factor ?kReader_is_factor ?iReader_is_factor ?aReader_term ?lReader_term ?cReader_term ?kReader_term ?iReader_term ?aReader_power ?lReader_power ?cReader_power ?kReader_power ?iReader_power ?atwo_terms ?ltwo_terms ?ctwo_terms ?ktwo_terms ?anames_in ?lnames_in ?cnames_in ?knames_in ?aread_identity ?lread_identity ?cread_identity ?kread_identity ?aL_said ?lL_said ?cL_said ?kL_said ?aL_long_right ?lL_long_right ?cL_long_right ?kL_long_right ?aL_source ?lL_source ?cL_source ?kL_source ?aL_draw ?lL_draw ?cL_draw ?kL_draw ?aL_pick ?lL_pick ?cL_pick ?kL_pick ?aL_term ?lL_term ?cL_term ?kL_term ?aL_is_open ?lL_is_open ?cL_is_open ?kL_is_open ?aL_fault ?lL_fault ?cL_fault ?kL_fault ?aL_due ?lL_due ?cL_due ?kL_due ?aL_right ?lL_right ?cL_right ?kL_right ?alaw ?llaw ?claw ?klaw ?pgReader ?hdReader ?poReader ?saReader ?nReader0 ?nReader1 ?aNoTerm_init ?lNoTerm_init ?cNoTerm_init ?kNoTerm_init ?xlNoTerm ?xbNoTerm ?saNoTerm ?gaNoTerm ?gtNoTerm ?eNoTerm ?tNoTerm ?kcNoTerm ?hdNoTerm ?tiNoTerm ?nNoTerm0 ?eFoldError ?tFoldError ?icFoldError ?icNoTerm ?sNoTerm_FoldError ?sNoTerm_NoTerm ?gMOST_TEXT ?gNAMES ?zabs ?zenumerate ?zint ?zisinstance ?zlen ?zrange ?zstr ?ztuple
  (case AFoldError => k_is)
  (case ANoTerm => k_is)
  (case AReader => k_is)
  (case aReader_init => k_is)
  (case lReader_init => k_is)
  (case cReader_init => k_is)
  (case kReader_init => k_is)
  (case iReader_init => k_is)
  (case mkReader => k_is)
  (case kcReader => k_is)
  (case aReader_sign => k_is)
  (case lReader_sign => k_is)
  (case cReader_sign => k_is)
  (case kReader_sign => k_is)
  (case iReader_sign => k_is)
  (case aReader_demand => k_is)
  (case lReader_demand => k_is)
  (case cReader_demand => k_is)
  (case kReader_demand => k_is)
  (case iReader_demand => k_is)
  (case aReader_is_factor => k_is)
  (case lReader_is_factor => k_is)
  (case cReader_is_factor => k_is)
  (case kReader_is_factor => k_is)
  (case iReader_is_factor => k_is)
  (case aReader_term => k_is)
  (case lReader_term => k_is)
  (case cReader_term => k_is)
  (case kReader_term => k_is)
  (case iReader_term => k_is)
  (case aReader_power => k_is)
  (case lReader_power => k_is)
  (case cReader_power => k_is)
  (case kReader_power => k_is)
  (case iReader_power => k_is)
  (case atwo_terms => k_is)
  (case ltwo_terms => k_is)
  (case ctwo_terms => k_is)
  (case ktwo_terms => k_is)
  (case anames_in => k_is)
  (case lnames_in => k_is)
  (case cnames_in => k_is)
  (case knames_in => k_is)
  (case aread_identity => k_is)
  (case lread_identity => k_is)
  (case cread_identity => k_is)
  (case kread_identity => k_is)
  (case aL_said => k_is)
  (case lL_said => k_is)
  (case cL_said => k_is)
  (case kL_said => k_is)
  (case aL_long_right => k_is)
  (case lL_long_right => k_is)
  (case cL_long_right => k_is)
  (case kL_long_right => k_is)
  (case aL_source => k_is)
  (case lL_source => k_is)
  (case cL_source => k_is)
  (case kL_source => k_is)
  (case aL_draw => k_is)
  (case lL_draw => k_is)
  (case cL_draw => k_is)
  (case kL_draw => k_is)
  (case aL_pick => k_is)
  (case lL_pick => k_is)
  (case cL_pick => k_is)
  (case kL_pick => k_is)
  (case aL_term => k_is)
  (case lL_term => k_is)
  (case cL_term => k_is)
  (case kL_term => k_is)
  (case aL_is_open => k_is)
  (case lL_is_open => k_is)
  (case cL_is_open => k_is)
  (case kL_is_open => k_is)
  (case aL_fault => k_is)
  (case lL_fault => k_is)
  (case cL_fault => k_is)
  (case kL_fault => k_is)
  (case aL_due => k_is)
  (case lL_due => k_is)
  (case cL_due => k_is)
  (case kL_due => k_is)
  (case aL_right => k_is)
  (case lL_right => k_is)
  (case cL_right => k_is)
  (case kL_right => k_is)
  (case alaw => k_is)
  (case llaw => k_is)
  (case claw => k_is)
  (case klaw => k_is)
  (case pgReader => k_is)
  (case hdReader => k_is)
  (case poReader => k_is)
  (case saReader => k_is)
  (case nReader0 => k_is)
  (case nReader1 => k_is)
  (case aNoTerm_init => k_is)
  (case lNoTerm_init => k_is)
  (case cNoTerm_init => k_is)
  (case kNoTerm_init => k_is)
  (case xlNoTerm => k_is)
  (case xbNoTerm => first | rfl | decide +kernel | k_is)
  (case saNoTerm => k_is)
  (case gaNoTerm => k_is)
  (case gtNoTerm => k_is)
  (case eNoTerm => k_is)
  (case tNoTerm => k_is)
  (case kcNoTerm => k_is)
  (case hdNoTerm => k_is)
  (case tiNoTerm => k_is)
  (case nNoTerm0 => k_is)
  (case eFoldError => k_is)
  (case tFoldError => k_is)
  (case icFoldError => k_is)
  (case icNoTerm => k_is)
  (case sNoTerm_FoldError => first | rfl | k_is)
  (case sNoTerm_NoTerm => first | rfl | k_is)
  (case gMOST_TEXT => k_is)
  (case gNAMES => k_is)
  (case zabs => k_is)
  (case zenumerate => k_is)
  (case zint => k_is)
  (case zisinstance => k_is)
  (case zlen => k_is)
  (case zrange => k_is)
  (case zstr => k_is)
  (case ztuple => k_is)
