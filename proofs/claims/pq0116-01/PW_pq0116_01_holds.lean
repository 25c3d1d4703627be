import PyProof.Rows.All
import Wide.All
import OpenK.AllK
import Wide.FinOn
import Lean
import PySem.Challenge.RW_pq0116_01
set_option Elab.async false
set_option linter.unusedVariables false
namespace Mine
open PySem PySem.W PyProof.Rows PySem.Calls

/-! views of a heap -/
noncomputable def Sub (g h : Heap) : Prop := ∀ b o, g.get? b = some o → h.get? b = some o
theorem Sub.rfl {g : Heap} : Sub g g := fun _ _ e => e
theorem Sub.trans {a b c : Heap} (x : Sub a b) (y : Sub b c) : Sub a c := fun q o e => y q o (x q o e)
theorem Sub.push {g h : Heap} (x : Sub g h) (o : Obj) : Sub g (h.push o) := fun b q e => Heap.get?_push_of_some _ (x b q e)

open Classical in
noncomputable def mask (h : Heap) (P : Addr → Prop) : Heap :=
  ⟨h.objs.mapIdx fun i o => if P i then o else ⟨.none, none, .freed, #[]⟩, h.life⟩
theorem mask_yes {h : Heap} {P : Addr → Prop} {b : Addr} (hp : P b) : (mask h P).get? b = h.get? b := by
  unfold mask Heap.get?
  simp only [Array.getElem?_mapIdx]
  cases h.objs[b]? with
  | none => rfl
  | some o => simp only [Option.map_some, if_pos hp]
theorem mask_no {h : Heap} {P : Addr → Prop} {b : Addr} (hp : ¬ P b) : (mask h P).get? b = none := by
  unfold mask Heap.get?
  simp only [Array.getElem?_mapIdx]
  cases h.objs[b]? with
  | none => rfl
  | some o => simp only [Option.map_some, if_neg hp]
theorem mask_sub {h : Heap} {P : Addr → Prop} : Sub (mask h P) h := by
  intro b o e
  by_cases hp : P b
  · rwa [mask_yes hp] at e
  · rw [mask_no hp] at e; cases e
theorem mask_inv {h : Heap} {P : Addr → Prop} {b : Addr} {o : Obj} (e : (mask h P).get? b = some o) : P b ∧ h.get? b = some o := by
  by_cases hp : P b
  · exact ⟨hp, by rwa [mask_yes hp] at e⟩
  · rw [mask_no hp] at e; cases e

/-- g and the addresses X of h -/
noncomputable def frz (g h : Heap) (X : Addr → Prop) : Heap := mask h fun b => (∃ o, g.get? b = some o) ∨ X b
theorem frz_sub {g h : Heap} {X : Addr → Prop} : Sub (frz g h X) h := mask_sub
theorem frz_grow {g h : Heap} {X : Addr → Prop} (s : Sub g h) : Sub g (frz g h X) := fun b o e => by
  unfold frz; rw [mask_yes (.inl ⟨o, e⟩)]; exact s b o e
theorem frz_new {g h : Heap} {X : Addr → Prop} {b : Addr} {o : Obj} (hx : X b) (e : h.get? b = some o) : (frz g h X).get? b = some o := by
  unfold frz; rw [mask_yes (.inr hx)]; exact e
theorem frz_inv {g h : Heap} {X : Addr → Prop} (s : Sub g h) {b : Addr} {o : Obj} (e : (frz g h X).get? b = some o) : g.get? b = some o ∨ X b := by
  obtain ⟨p, q⟩ := mask_inv e
  rcases p with ⟨o', e'⟩ | p
  · left; have := s b o' e'; rw [q] at this; cases this; exact e'
  · exact .inr p
/-- g without the addresses X -/
noncomputable def cut (g : Heap) (X : Addr → Prop) : Heap := mask g fun b => ¬ X b
theorem cut_sub {g : Heap} {X : Addr → Prop} : Sub (cut g X) g := mask_sub
theorem cut_off {g : Heap} {X : Addr → Prop} {b : Addr} (hx : X b) : (cut g X).get? b = none := mask_no fun h => h hx
theorem cut_on {g : Heap} {X : Addr → Prop} {b : Addr} (hx : ¬ X b) : (cut g X).get? b = g.get? b := mask_yes hx
theorem cut_le {g g' : Heap} {X : Addr → Prop} (s : Sub g g') (h : ∀ b, X b → g.get? b = none) : Sub g (cut g' X) := fun b o e => by
  rw [cut_on fun hx => by rw [h b hx] at e; cases e]; exact s b o e

/-! what a value stands for -/
noncomputable def Is (g : Heap) (v : Value) (d : PyData) : Prop := ∃ as, Reads g v d as
noncomputable def IsAll (g : Heap) (vs : List Value) (ds : List PyData) : Prop := ∃ as, ReadsAll g vs ds as
section
variable {g g' : Heap} {v : Value} {d : PyData} {vs ws : List Value} {ds es : List PyData}
theorem Is.mono (h : Is g v d) (s : Sub g g') : Is g' v d := let ⟨as, r⟩ := h; ⟨as, Reads.keeps s r⟩
theorem IsAll.mono (h : IsAll g vs ds) (s : Sub g g') : IsAll g' vs ds := let ⟨as, r⟩ := h; ⟨as, ReadsAll.keeps s r⟩
theorem Is.none : Is g .none .none := ⟨_, .none⟩
theorem Is.bool {b : Bool} : Is g (.bool b) (.bool b) := ⟨_, .bool b⟩
theorem Is.int {i : Int} {t : Tok} : Is g (.int i t) (.int i) := ⟨_, .int i t⟩
theorem Is.str {x : Str} {t : Tok} : Is g (.str x t) (.str x) := ⟨_, .str x t⟩
theorem IsAll.nil : IsAll g [] [] := ⟨_, .nil⟩
theorem IsAll.cons (h : Is g v d) (k : IsAll g vs ds) : IsAll g (v :: vs) (d :: ds) := let ⟨_, r⟩ := h; let ⟨_, q⟩ := k; ⟨_, .cons r q⟩
theorem IsAll.head (h : IsAll g (v :: vs) (d :: ds)) : Is g v d := by obtain ⟨_, r⟩ := h; cases r with | cons a b => exact ⟨_, a⟩
theorem IsAll.tail (h : IsAll g (v :: vs) (d :: ds)) : IsAll g vs ds := by obtain ⟨_, r⟩ := h; cases r with | cons a b => exact ⟨_, b⟩
theorem IsAll.nil_inv (h : IsAll g vs []) : vs = [] := by obtain ⟨_, r⟩ := h; cases r; rfl
theorem IsAll.cons_inv (h : IsAll g vs (d :: ds)) : ∃ v ws, vs = v :: ws ∧ Is g v d ∧ IsAll g ws ds := by
  obtain ⟨_, r⟩ := h
  cases r with
  | cons a b => exact ⟨_, _, rfl, ⟨_, a⟩, ⟨_, b⟩⟩
theorem IsAll.length : ∀ {vs : List Value} {ds : List PyData}, IsAll g vs ds → vs.length = ds.length
  | vs, [], h => by rw [h.nil_inv]; rfl
  | vs, d :: ds, h => by
    obtain ⟨v, ws, rfl, _, k⟩ := h.cons_inv
    rw [List.length_cons, List.length_cons, k.length]
theorem IsAll.append : ∀ {vs : List Value} {ds : List PyData}, IsAll g vs ds → IsAll g ws es → IsAll g (vs ++ ws) (ds ++ es)
  | vs, [], h, k => by rw [h.nil_inv]; exact k
  | vs, d :: ds, h, k => by
    obtain ⟨v, ws', rfl, a, b⟩ := h.cons_inv
    exact .cons a (b.append k)
theorem IsAll.one (h : Is g v d) : IsAll g [v] [d] := .cons h .nil
theorem IsAll.get : ∀ {vs : List Value} {ds : List PyData}, IsAll g vs ds → ∀ {k : Nat} {d : PyData}, ds[k]? = some d → ∃ v, vs[k]? = some v ∧ Is g v d
  | vs, [], _, k, d, e => by simp at e
  | vs, d' :: ds, h, k, d, e => by
    obtain ⟨v, ws', rfl, a, b⟩ := h.cons_inv
    cases k with
    | zero => simp at e; subst e; exact ⟨v, rfl, a⟩
    | succ k => simpa using b.get (by simpa using e)
theorem IsAll.of_get : ∀ {vs : List Value} {ds : List PyData}, vs.length = ds.length → (∀ (k : Nat) v d, vs[k]? = some v → ds[k]? = some d → Is g v d) → IsAll g vs ds
  | [], [], _, _ => .nil
  | v :: vs, d :: ds, hl, h => .cons (h 0 v d rfl rfl) (IsAll.of_get (by simpa using hl) fun k v d a b => h (k + 1) v d (by simpa using a) (by simpa using b))
  | [], _ :: _, hl, _ => by simp at hl
  | _ :: _, [], hl, _ => by simp at hl
theorem IsAll.map_get (h : IsAll g vs ds) (ks : List Nat) (hk : ∀ k ∈ ks, k < ds.length) (v₀ : Value) (d₀ : PyData) : IsAll g (ks.map fun k => vs.getD k v₀) (ks.map fun k => ds.getD k d₀) := by
  induction ks with
  | nil => exact .nil
  | cons k ks ih =>
    have hk' := hk k (.head _)
    obtain ⟨v, e, i⟩ := h.get (k := k) (d := ds[k]) (by simp [hk'])
    refine .cons ?_ (ih fun j hj => hk j (.tail _ hj))
    dsimp only
    rw [List.getD_eq_getElem?_getD, e, List.getD_eq_getElem?_getD, List.getElem?_eq_getElem hk']
    exact i
theorem Is.tuple {a : Addr} {o : Obj} {xs : Array Value} {n : Nat} (ho : g.get? a = some o) (hc : o.cls = .type "tuple") (hd : o.data = .seq xs n) (h : IsAll g xs.toList ds) : Is g (.ref a) (.tuple ds) :=
  let ⟨_, r⟩ := h; ⟨_, .tuple ho hc hd r⟩
theorem Is.list {a : Addr} {o : Obj} {xs : Array Value} {n : Nat} (ho : g.get? a = some o) (hc : o.cls = .type "list") (hd : o.data = .seq xs n) (h : IsAll g xs.toList ds) : Is g (.ref a) (.list ds) :=
  let ⟨_, r⟩ := h; ⟨_, .list ho hc hd r⟩
theorem Is.tuple_inv (h : Is g v (.tuple ds)) : ∃ a o xs n, v = .ref a ∧ g.get? a = some o ∧ o.cls = .type "tuple" ∧ o.data = .seq xs n ∧ IsAll g xs.toList ds := by
  obtain ⟨_, r⟩ := h
  cases r with
  | tuple a b c e => exact ⟨_, _, _, _, rfl, a, b, c, ⟨_, e⟩⟩
theorem Is.list_inv (h : Is g v (.list ds)) : ∃ a o xs n, v = .ref a ∧ g.get? a = some o ∧ o.cls = .type "list" ∧ o.data = .seq xs n ∧ IsAll g xs.toList ds := by
  obtain ⟨_, r⟩ := h
  cases r with
  | list a b c e => exact ⟨_, _, _, _, rfl, a, b, c, ⟨_, e⟩⟩
theorem Is.none_inv (h : Is g v .none) : v = .none := by obtain ⟨_, r⟩ := h; cases r; rfl
theorem Is.bool_inv {b : Bool} (h : Is g v (.bool b)) : v = .bool b := by obtain ⟨_, r⟩ := h; cases r; rfl
theorem Is.int_inv {i : Int} (h : Is g v (.int i)) : ∃ t, v = .int i t := by obtain ⟨_, r⟩ := h; cases r; exact ⟨_, rfl⟩
theorem Is.str_inv {x : Str} (h : Is g v (.str x)) : ∃ t, v = .str x t := by obtain ⟨_, r⟩ := h; cases r; exact ⟨_, rfl⟩
end

mutual
theorem reads_cut {g : Heap} {X : Addr → Prop} (hX : ∀ b o, X b → g.get? b = some o → ∃ fs, o.data = .fields fs) : ∀ {v : Value} {d : PyData} {as : List Addr}, Reads g v d as → Reads (cut g X) v d as
  | _, _, _, .none => .none
  | _, _, _, .bool b => .bool b
  | _, _, _, .int i t => .int i t
  | _, _, _, .str x t => .str x t
  | _, _, _, .list h1 h2 h3 h4 => .list ((cut_on fun hx => by obtain ⟨fs, e⟩ := hX _ _ hx h1; rw [h3] at e; cases e).trans h1) h2 h3 (readsAll_cut hX h4)
  | _, _, _, .tuple h1 h2 h3 h4 => .tuple ((cut_on fun hx => by obtain ⟨fs, e⟩ := hX _ _ hx h1; rw [h3] at e; cases e).trans h1) h2 h3 (readsAll_cut hX h4)
  | _, _, _, .dict h1 h2 h3 h4 h5 => .dict ((cut_on fun hx => by obtain ⟨fs, e⟩ := hX _ _ hx h1; rw [h3] at e; cases e).trans h1) h2 h3 (readsAll_cut hX h4) (readsAll_cut hX h5)
theorem readsAll_cut {g : Heap} {X : Addr → Prop} (hX : ∀ b o, X b → g.get? b = some o → ∃ fs, o.data = .fields fs) : ∀ {vs : List Value} {ds : List PyData} {as : List Addr}, ReadsAll g vs ds as → ReadsAll (cut g X) vs ds as
  | _, _, _, .nil => .nil
  | _, _, _, .cons h1 h2 => .cons (reads_cut hX h1) (readsAll_cut hX h2)
end
theorem Is.cut {g : Heap} {X : Addr → Prop} (hX : ∀ b o, X b → g.get? b = some o → ∃ fs, o.data = .fields fs) {v : Value} {d : PyData} (h : Is g v d) : Is (cut g X) v d := let ⟨_, r⟩ := h; ⟨_, reads_cut hX r⟩
end Mine

namespace Mine
open PySem PySem.W PyProof.Rows PySem.Calls

/-! a small language -/
inductive V where
  | d (x : PyData)
  | me (x : PyData)
  | feed
inductive Bnd where
  | un
  | v (x : V)
  | own (ds : List PyData)
noncomputable def ownB : Bnd → Bool
  | .own _ => true
  | _ => false
inductive Tgt where
  | one (i : Nat)
  | two (i j : Nat)
inductive SK where
  | from1 | butLast | revFrom2 | upto (n : Nat) | rev | rev0
inductive Bi where
  | len | tuple | list | sorted | join
inductive BOp where
  | add | sub | mul | mod
inductive COp where
  | eq | ne | lt | gt | isIn | notIn
inductive E where
  | loc (i : Nat) | lit (d : PyData) | glo (k : Nat)
  | nil | cons (e es : E)
  | tup (es : E) | lst (es : E)
  | item (e i : E) | slc (k : SK) (e : E)
  | ops (e : E)
  | call (f : Nat) (es : E) | meth (f : Nat) (e es : E)
  | bi (b : Bi) (e : E) | mk (e : E)
  | bin (o : BOp) (a b : E) | cmp (o : COp) (a b : E)
  | notE (a : E) | andE (a b : E) | orE (a b : E) | ite (c a b : E)
  | comp (e : E) (t : Tgt) (it c : E)
  | comp2 (e : E) (t₁ : Tgt) (it₁ : E) (t₂ : Tgt) (it₂ : E)
  | enum (e : E)
inductive S where
  | nop
  | asg (i : Nat) (e : E) (k : S)
  | asg2 (i j : Nat) (a b : E) (k : S)
  | new (i : Nat) (e : E) (k : S)
  | frz (i : Nat) (k : S)
  | ext (i : Nat) (e : E) (k : S)
  | fset (i : Nat) (key : Str) (e : E) (k : S)
  | ifS (c : E) (a b k : S)
  | forS (t : Tgt) (it : E) (b k : S)
  | ret (e : E)
noncomputable abbrev Sg := List (Str × PyData)
inductive Out where
  | next (ρ : List Bnd) (σ : Sg)
  | ret (v : V) (σ : Sg)
structure FnM where
  nargs : Nat
  nslots : Nat
  body : S

/-! its operations on data -/
noncomputable def lim : Nat := 1000000
noncomputable def intOk (i : Int) : Bool := decide (-(2 : Int) ^ 40 < i) && decide (i < (2 : Int) ^ 40)
noncomputable def mkI (i : Int) : Option PyData := if intOk i then some (.int i) else none
noncomputable def mkS (x : Str) : Option PyData := if x.length ≤ lim then some (.str x) else none
noncomputable def mkT (xs : List PyData) : Option PyData := if xs.length ≤ lim then some (.tuple xs) else none
noncomputable def mkL (xs : List PyData) : Option PyData := if xs.length ≤ lim then some (.list xs) else none
noncomputable def binD : BOp → PyData → PyData → Option PyData
  | .add, .int a, .int b => if intOk a && intOk b then mkI (a + b) else none
  | .sub, .int a, .int b => if intOk a && intOk b then mkI (a - b) else none
  | .mul, .int a, .int b => if intOk a && intOk b then mkI (a * b) else none
  | .mod, .int a, .int b => if decide (0 < b) then mkI (a % b) else none
  | .add, .tuple a, .tuple b => mkT (a ++ b)
  | .add, .list a, .list b => mkL (a ++ b)
  | .add, .str a, .str b => mkS (a ++ b)
  | _, _, _ => none
noncomputable def okD (d : PyData) : Bool := SeqAt.shaped d
noncomputable def seqOf : PyData → Option (List PyData)
  | .list xs => some xs
  | .tuple xs => some xs
  | _ => none
noncomputable def cmpD : COp → PyData → PyData → Option Bool
  | .eq, a, b => if okD a && okD b then some (PyData.eqv a b) else none
  | .ne, a, b => if okD a && okD b then some (!PyData.eqv a b) else none
  | .lt, .int a, .int b => some (decide (a < b))
  | .gt, .int a, .int b => some (decide (b < a))
  | .isIn, a, b => match seqOf b with
    | some xs => if okD a && okD b then some (xs.any fun y => PyData.eqv y a) else none
    | none => none
  | .notIn, a, b => match seqOf b with
    | some xs => if okD a && okD b then some (!(xs.any fun y => PyData.eqv y a)) else none
    | none => none
  | _, _, _ => none
noncomputable def idx (n : Nat) (i : Int) : Option Nat :=
  if 0 ≤ i then (if i < n then some i.toNat else none) else (if 0 ≤ i + n then some (i + n).toNat else none)
noncomputable def itemD : PyData → Int → Option PyData
  | .tuple xs, i => (idx xs.length i).bind fun k => xs[k]?
  | .list xs, i => (idx xs.length i).bind fun k => xs[k]?
  | _, _ => none
noncomputable def slcL (k : SK) (xs : List PyData) : List PyData := match k with
  | .from1 => xs.drop 1
  | .butLast => xs.dropLast
  | .revFrom2 => xs.dropLast.reverse
  | .upto n => xs.take n
  | .rev => xs.reverse
  | .rev0 => (xs.drop 1).reverse
noncomputable def slcD : SK → PyData → Option PyData
  | .from1, .tuple xs => if 1 ≤ xs.length ∧ xs.length ≤ lim then some (.tuple (xs.drop 1)) else none
  | .butLast, .tuple xs => if 1 ≤ xs.length ∧ xs.length ≤ lim then some (.tuple xs.dropLast) else none
  | .rev0, .tuple xs => if 1 ≤ xs.length ∧ xs.length ≤ lim then some (.tuple (xs.drop 1).reverse) else none
  | .rev0, .list _ => none
  | .butLast, .list _ => none
  | k, .list xs => if xs.length ≤ lim then some (.list (slcL k xs)) else none
  | _, _ => none
mutual
noncomputable def ltD : PyData → PyData → Option Bool
  | .int a, .int b => some (decide (a < b))
  | .str a, .str b => some (decide (a.cps.toList < b.cps.toList))
  | .tuple a, .tuple b => ltL a b
  | .list a, .list b => ltL a b
  | _, _ => none
noncomputable def ltL : List PyData → List PyData → Option Bool
  | [], [] => some false
  | [], _ :: _ => some true
  | _ :: _, [] => some false
  | x :: xs, y :: ys => if PyData.eqv x y then ltL xs ys else ltD x y
end
noncomputable def tagD : PyData → Nat
  | .none => 0 | .bool _ => 1 | .int _ => 2 | .str _ => 3 | .tuple _ => 4 | .list _ => 5 | .dict _ => 6
mutual
/-- a total order on data of ints, strs, tuples, lists -/
noncomputable def cD : PyData → PyData → Ordering
  | .int a, .int b => compare a b
  | .str a, .str b => if a.cps.toList < b.cps.toList then .lt else if a = b then .eq else .gt
  | .tuple a, .tuple b => cL a b
  | .list a, .list b => cL a b
  | a, b => compare (tagD a) (tagD b)
noncomputable def cL : List PyData → List PyData → Ordering
  | [], [] => .eq
  | [], _ :: _ => .lt
  | _ :: _, [] => .gt
  | x :: xs, y :: ys => (cD x y).then (cL xs ys)
end
mutual
noncomputable def gd : PyData → Bool
  | .int _ => true
  | .str _ => true
  | .tuple xs => gdL xs
  | .list xs => gdL xs
  | _ => false
noncomputable def gdL : List PyData → Bool
  | [] => true
  | x :: xs => gd x && gdL xs
end
noncomputable def insC (x : PyData) : List PyData → List PyData
  | [] => [x]
  | y :: ys => if cD x y = .gt then y :: insC x ys else x :: y :: ys
noncomputable def sortC : List PyData → List PyData
  | [] => []
  | x :: xs => insC x (sortC xs)
noncomputable def firstOf : PyData → Option PyData
  | .tuple (x :: _) => some x
  | _ => none
noncomputable def isTag (t : Nat) (d : PyData) : Bool := tagD d == t
noncomputable def isFst (t : Nat) (d : PyData) : Bool := match firstOf d with
  | some x => tagD x == t
  | none => false
noncomputable def kindOk (xs : List PyData) : Bool := xs.all (isTag 3) || xs.all (isFst 2) || xs.all (isFst 3) || xs.all (isFst 4)
noncomputable def sortOk (xs : List PyData) : Bool := decide (2 ≤ xs.length) && decide (xs.length < 64) && okD (.list xs) && gdL xs && kindOk xs && xs.all fun x => xs.all fun y => (ltD x y).isSome
noncomputable def strsOf : List PyData → Option (List Str)
  | [] => some []
  | .str x :: r => (strsOf r).map (x :: ·)
  | _ :: _ => none
noncomputable def catS : List Str → Str
  | [] => Str.empty
  | x :: r => x ++ catS r
noncomputable def biD : Bi → PyData → Option PyData
  | .len, .tuple xs => mkI xs.length
  | .len, .list xs => mkI xs.length
  | .tuple, .list xs => mkT xs
  | .list, .tuple xs => mkL xs
  | .sorted, .list xs => if sortOk xs then some (.list (sortC xs)) else none
  | .join, .list xs => (strsOf xs).bind fun ss => if (catS ss).length ≤ lim ∧ xs.length ≤ lim then some (.str (catS ss)) else none
  | _, _ => none
noncomputable def enumL : Nat → List PyData → List PyData
  | _, [] => []
  | k, x :: xs => .tuple [.int k, x] :: enumL (k + 1) xs
noncomputable def datas : List V → Option (List PyData)
  | [] => some []
  | .d x :: r => (datas r).map (x :: ·)
  | _ :: _ => none
noncomputable def bindT : Tgt → PyData → List Bnd → Option (List Bnd)
  | .one i, x, ρ => some (ρ.set i (.v (.d x)))
  | .two i j, .tuple [x, y], ρ => some ((ρ.set i (.v (.d x))).set j (.v (.d y)))
  | _, _, _ => none
noncomputable def clrT : Tgt → List Bnd → List Bnd
  | .one i, ρ => ρ.set i .un
  | .two i j, ρ => (ρ.set i .un).set j .un
noncomputable def oneV : Option (List V × Sg) → Option (V × Sg)
  | some ([v], σ) => some (v, σ)
  | _ => none
noncomputable def oneD : Option (List V × Sg) → Option (PyData × Sg)
  | some ([.d x], σ) => some (x, σ)
  | _ => none
noncomputable def oneB : Option (List V × Sg) → Option (Bool × Sg)
  | some ([.d (.bool b)], σ) => some (b, σ)
  | _ => none
noncomputable def oneL : Option (List V × Sg) → Option (List PyData × Sg)
  | some ([.d (.list xs)], σ) => if xs.length ≤ lim then some (xs, σ) else none
  | some ([.d (.tuple xs)], σ) => if xs.length ≤ lim then some (xs, σ) else none
  | _ => none
noncomputable def compGo (f : PyData → Sg → Option (List PyData × Sg)) : List PyData → Sg → Option (List PyData × Sg)
  | [], σ => some ([], σ)
  | x :: xs, σ => (f x σ).bind fun r => (compGo f xs r.2).bind fun q => some (r.1 ++ q.1, q.2)

section
variable (glo : Nat → Option PyData) (run : Nat → List V → Sg → Option (V × Sg))
noncomputable def ev : E → List Bnd → Sg → Option (List V × Sg)
  | .loc i, ρ, σ => match ρ[i]? with
    | some (.v x) => some ([x], σ)
    | _ => none
  | .lit d, _, σ => some ([.d d], σ)
  | .glo k, _, σ => (glo k).bind fun d => some ([.d d], σ)
  | .nil, _, σ => some ([], σ)
  | .cons e es, ρ, σ => (oneV (ev e ρ σ)).bind fun r => (ev es ρ r.2).bind fun q => some (r.1 :: q.1, q.2)
  | .tup es, ρ, σ => (ev es ρ σ).bind fun r => (datas r.1).bind fun xs => (mkT xs).bind fun d => some ([.d d], r.2)
  | .lst es, ρ, σ => (ev es ρ σ).bind fun r => (datas r.1).bind fun xs => (mkL xs).bind fun d => some ([.d d], r.2)
  | .item e i, ρ, σ => (oneV (ev e ρ σ)).bind fun r => (oneD (ev i ρ r.2)).bind fun q => match r.1, q.1 with
    | .d x, .int k => if intOk k then (itemD x k).bind fun d => some ([.d d], q.2) else none
    | .feed, .str k => (q.2.lookup k).bind fun d => some ([.d d], q.2)
    | _, _ => none
  | .slc k e, ρ, σ => (oneD (ev e ρ σ)).bind fun r => (slcD k r.1).bind fun d => some ([.d d], r.2)
  | .ops e, ρ, σ => (oneV (ev e ρ σ)).bind fun r => match r.1 with
    | .me d => some ([.d d], r.2)
    | _ => none
  | .call f es, ρ, σ => (ev es ρ σ).bind fun r => (run f r.1 r.2).bind fun q => some ([q.1], q.2)
  | .meth f e es, ρ, σ => (oneV (ev e ρ σ)).bind fun r => match r.1 with
    | .me d => (ev es ρ r.2).bind fun p => (run f (.me d :: p.1) p.2).bind fun q => some ([q.1], q.2)
    | _ => none
  | .bi b e, ρ, σ => (oneD (ev e ρ σ)).bind fun r => (biD b r.1).bind fun d => some ([.d d], r.2)
  | .mk e, ρ, σ => (oneD (ev e ρ σ)).bind fun r => some ([.me r.1], r.2)
  | .bin o a b, ρ, σ => (oneD (ev a ρ σ)).bind fun r => (oneD (ev b ρ r.2)).bind fun q => (binD o r.1 q.1).bind fun d => some ([.d d], q.2)
  | .cmp o a b, ρ, σ => (oneD (ev a ρ σ)).bind fun r => (oneD (ev b ρ r.2)).bind fun q => (cmpD o r.1 q.1).bind fun t => some ([.d (.bool t)], q.2)
  | .notE a, ρ, σ => (oneB (ev a ρ σ)).bind fun r => some ([.d (.bool (!r.1))], r.2)
  | .andE a b, ρ, σ => (oneB (ev a ρ σ)).bind fun r => if r.1 then (oneB (ev b ρ r.2)).bind fun q => some ([.d (.bool q.1)], q.2) else some ([.d (.bool false)], r.2)
  | .orE a b, ρ, σ => (oneB (ev a ρ σ)).bind fun r => if r.1 then some ([.d (.bool true)], r.2) else (oneB (ev b ρ r.2)).bind fun q => some ([.d (.bool q.1)], q.2)
  | .ite c a b, ρ, σ => (oneB (ev c ρ σ)).bind fun r => if r.1 then (oneV (ev a ρ r.2)).bind fun q => some ([q.1], q.2) else (oneV (ev b ρ r.2)).bind fun q => some ([q.1], q.2)
  | .comp e t it c, ρ, σ => (oneL (ev it ρ σ)).bind fun r =>
      (compGo (fun x σ => (bindT t x ρ).bind fun ρ' => (oneB (ev c ρ' σ)).bind fun q => if q.1 then (oneD (ev e ρ' q.2)).bind fun p => some ([p.1], p.2) else some ([], q.2)) r.1 r.2).bind fun q =>
      (mkL q.1).bind fun d => some ([.d d], q.2)
  | .comp2 e t₁ it₁ t₂ it₂, ρ, σ => (oneL (ev it₁ ρ σ)).bind fun r =>
      (compGo (fun x σ => (bindT t₁ x (clrT t₂ ρ)).bind fun ρ' => (oneL (ev it₂ ρ' σ)).bind fun q =>
        compGo (fun y σ => (bindT t₂ y ρ').bind fun ρ'' => (oneD (ev e ρ'' σ)).bind fun p => some ([p.1], p.2)) q.1 q.2) r.1 r.2).bind fun q =>
      (mkL q.1).bind fun d => some ([.d d], q.2)
  | .enum e, ρ, σ => (oneD (ev e ρ σ)).bind fun r => match r.1 with
    | .tuple xs => some ([.d (.list (enumL 0 xs))], r.2)
    | _ => none

noncomputable def forGo (f : PyData → List Bnd → Sg → Option Out) : List PyData → List Bnd → Sg → Option Out
  | [], ρ, σ => some (.next ρ σ)
  | x :: xs, ρ, σ => (f x ρ σ).bind fun r => match r with
    | .next ρ' σ' => forGo f xs ρ' σ'
    | .ret v σ' => some (.ret v σ')
noncomputable def thenS (r : Option Out) (k : List Bnd → Sg → Option Out) : Option Out := r.bind fun o => match o with
  | .next ρ σ => k ρ σ
  | .ret v σ => some (.ret v σ)
noncomputable def evS : S → List Bnd → Sg → Option Out
  | .nop, ρ, σ => some (.next ρ σ)
  | .asg i e k, ρ, σ => (oneV (ev glo run e ρ σ)).bind fun r => evS k (ρ.set i (.v r.1)) r.2
  | .asg2 i j a b k, ρ, σ => (oneV (ev glo run a ρ σ)).bind fun r => (oneV (ev glo run b ρ r.2)).bind fun q => evS k ((ρ.set i (.v r.1)).set j (.v q.1)) q.2
  | .new i e k, ρ, σ => (ev glo run e ρ σ).bind fun r => (datas r.1).bind fun xs => (mkL xs).bind fun _ => if (ρ.set i .un).any ownB then none else evS k (ρ.set i (.own xs)) r.2
  | .frz i k, ρ, σ => match ρ[i]? with
    | some (.own xs) => evS k (ρ.set i (.v (.d (.list xs)))) σ
    | _ => none
  | .ext i e k, ρ, σ => match ρ[i]? with
    | some (.own xs) => (ev glo run e ρ σ).bind fun r => match r.1 with
      | [.d (.list ys)] => (mkL (xs ++ ys)).bind fun _ => evS k (ρ.set i (.own (xs ++ ys))) r.2
      | _ => none
    | _ => none
  | .fset i key e k, ρ, σ => match ρ[i]? with
    | some (.v .feed) => (oneD (ev glo run e ρ σ)).bind fun r => match r.2.lookup key with
      | some _ => evS k ρ (r.2.map fun p => if p.1 = key then (key, r.1) else p)
      | none => none
    | _ => none
  | .ifS c a b k, ρ, σ => (oneB (ev glo run c ρ σ)).bind fun r => thenS (if r.1 then evS a ρ r.2 else evS b ρ r.2) fun ρ' σ' => evS k ρ' σ'
  | .forS t it b k, ρ, σ => (oneL (ev glo run it ρ σ)).bind fun r => thenS (forGo (fun x ρ σ => (bindT t x ρ).bind fun ρ' => evS b ρ' σ) r.1 ρ r.2) fun ρ' σ' => evS k ρ' σ'
  | .ret e, ρ, σ => (oneV (ev glo run e ρ σ)).bind fun r => some (.ret r.1 r.2)
end

noncomputable def run (glo : Nat → Option PyData) (fn : Nat → Option FnM) : Nat → Nat → List V → Sg → Option (V × Sg)
  | 0, _, _, _ => none
  | n + 1, f, vs, σ => (fn f).bind fun m =>
    if vs.length = m.nargs then
      match evS glo (run glo fn n) m.body (vs.map .v ++ List.replicate m.nslots .un) σ with
      | some (.ret v σ') => some (v, σ')
      | _ => none
    else none
end Mine

namespace Mine
open PySem PySem.W PyProof.Rows PySem.Calls

structure Cfg where
  prog : Program
  w : World
  h₀ : Heap
  c : Addr
  C : Addr
  K : Frag
  mg : Str → Option Value
  mb : Str → Option Value

/-- an instance with its one attribute -/
noncomputable def InstIs (G : Cfg) (g : Heap) (v : Value) (x : PyData) : Prop :=
  ∃ a dx n hsh tk u, v = .ref a ∧ g.get? a = some (instObj G.C dx) ∧ g.get? dx = some (dictOf [⟨hsh, .str "ops" tk, u⟩] n) ∧ handedIn u = true ∧ Is g u x
noncomputable def IsV (G : Cfg) (g : Heap) (v : Value) : V → Prop
  | .d x => Is g v x
  | .me x => InstIs G g v x
  | .feed => v = .ref G.c
/-- what may be changed: nothing below L; the changing list of slot i lies at f i -/
structure Anc where
  L : Addr
  f : Nat → Addr
noncomputable def BndIs (G : Cfg) (κ : Anc) (i : Nat) (g h : Heap) (v : Value) : Bnd → Prop
  | .un => True
  | .v x => IsV G g v x
  | .own ds => ∃ vs, v = .ref (κ.f i) ∧ h.PlainList (κ.f i) vs ∧ IsAll g vs.toList ds ∧ g.get? (κ.f i) = none ∧ κ.f i ≠ G.c ∧ κ.L ≤ κ.f i ∧ ds.length ≤ lim
section
variable {G : Cfg} {g g' h h' : Heap} {v : Value}
theorem InstIs.mono {x : PyData} (i : InstIs G g v x) (s : Sub g g') : InstIs G g' v x := by
  obtain ⟨a, dx, n, hsh, tk, u, e, h1, h2, h3, h4⟩ := i
  exact ⟨a, dx, n, hsh, tk, u, e, s _ _ h1, s _ _ h2, h3, h4.mono s⟩
theorem InstIs.cut {X : Addr → Prop} (hX : ∀ b o, X b → g.get? b = some o → ∃ fs, o.data = .fields fs) {x : PyData} (i : InstIs G g v x) : InstIs G (cut g X) v x := by
  obtain ⟨a, dx, n, hsh, tk, u, e, h1, h2, h3, h4⟩ := i
  refine ⟨a, dx, n, hsh, tk, u, e, (cut_on fun hx => ?_).trans h1, (cut_on fun hx => ?_).trans h2, h3, h4.cut hX⟩
  · obtain ⟨fs, e⟩ := hX _ _ hx h1; cases e
  · obtain ⟨fs, e⟩ := hX _ _ hx h2; cases e
theorem IsV.mono {x : V} (i : IsV G g v x) (s : Sub g g') : IsV G g' v x := by
  cases x with
  | d x => exact Is.mono i s
  | me x => exact InstIs.mono i s
  | feed => exact i
theorem IsV.cut {X : Addr → Prop} (hX : ∀ b o, X b → g.get? b = some o → ∃ fs, o.data = .fields fs) {x : V} (i : IsV G g v x) : IsV G (Mine.cut g X) v x := by
  cases x with
  | d x => exact Is.cut hX i
  | me x => exact InstIs.cut hX i
  | feed => exact i
end

/-- the shared dict at c bears σ -/
noncomputable def Shr (G : Cfg) (g : Heap) (σ : Sg) (h : Heap) : Prop :=
  ∃ kvs, h.DictOf (strKind G.prog G.w) G.c kvs ∧ kvs.map (·.1) = σ.map (·.1) ∧ IsAll g (kvs.map (·.2)) (σ.map (·.2)) ∧ kvs.length ≤ 100
structure Inv (G : Cfg) (g : Heap) (σ : Sg) (s : Shared) : Prop where
  base : Sub G.h₀ g
  sub : Sub g s.heap
  gc : g.get? G.c = none
  shr : Shr G g σ s.heap
structure Stp (G : Cfg) (s : Shared) (g : Heap) (σ' : Sg) (s' : Shared) (g' : Heap) : Prop where
  same : ∃ h' tk, s' = { s with heap := h', toks := tk }
  keep : ∀ b o, b ≠ G.c → s.heap.get? b = some o → s'.heap.get? b = some o
  grow : Sub g g'
  fresh : ∀ b o, g'.get? b = some o → g.get? b = some o ∨ s.heap.get? b = none
  inv : Inv G g' σ' s'
section
variable {G : Cfg} {s s' s₁ s₂ : Shared} {g g' g₁ g₂ : Heap} {σ σ' σ₁ σ₂ : Sg}
theorem Shr.at {h h' : Heap} (x : Shr G g σ h) (hk : ∀ b o, h.get? b = some o → h'.get? b = some o) (hg : Sub g g') : Shr G g' σ h' := by
  obtain ⟨kvs, ⟨o, es, ep, ho, r⟩, e, i, l⟩ := x
  exact ⟨kvs, ⟨o, es, ep, hk _ _ ho, r⟩, e, i.mono hg, l⟩
theorem Shr.some {h : Heap} (x : Shr G g σ h) : ∃ o es ep, h.get? G.c = some o ∧ o.data = .dict es ep ∧ o.ExactDict := by
  obtain ⟨kvs, ⟨o, es, ep, ho, hx, hd, _⟩, _⟩ := x
  exact ⟨o, es, ep, ho, hd, hx⟩
theorem Stp.trans (x : Stp G s g σ₁ s₁ g₁) (y : Stp G s₁ g₁ σ₂ s₂ g₂) : Stp G s g σ₂ s₂ g₂ := by
  obtain ⟨h1, t1, rfl⟩ := x.same
  obtain ⟨h2, t2, rfl⟩ := y.same
  refine ⟨⟨h2, t2, rfl⟩, fun b o hb e => y.keep b o hb (x.keep b o hb e), x.grow.trans y.grow, fun b o e => ?_, y.inv⟩
  rcases y.fresh b o e with e' | e'
  · exact x.fresh b o e'
  · right
    by_cases hb : b = G.c
    · rw [hb, y.inv.gc] at e; cases e
    · cases q : s.heap.get? b with
      | none => rfl
      | some o' => rw [x.keep b o' hb q] at e'; cases e'
theorem Inv.toks (i : Inv G g σ s) (t : Nat) : Inv G g σ { s with toks := t } := ⟨i.base, i.sub, i.gc, i.shr⟩
theorem Stp.refl (i : Inv G g σ s) : Stp G s g σ s g := ⟨⟨_, _, rfl⟩, fun _ _ _ e => e, Sub.rfl, fun _ _ e => .inl e, i⟩
theorem Stp.tok (i : Inv G g σ s) (t : Nat) : Stp G s g σ { s with toks := t } g := ⟨⟨_, _, rfl⟩, fun _ _ _ e => e, Sub.rfl, fun _ _ e => .inl e, i.toks t⟩
/-- a step that keeps every object and freezes the addresses X -/
theorem Stp.all (i : Inv G g σ s) {h' : Heap} {tk : Nat} (hk : ∀ b o, s.heap.get? b = some o → h'.get? b = some o) (X : Addr → Prop) (hX : ∀ b, X b → s.heap.get? b = none) :
    Stp G s g σ { s with heap := h', toks := tk } (frz g h' X) := by
  have sub' : Sub g h' := i.sub.trans hk
  refine ⟨⟨_, _, rfl⟩, fun b o _ e => hk b o e, frz_grow sub', fun b o e => ?_, ?_, frz_sub, ?_, ?_⟩
  · rcases frz_inv sub' e with e | e
    · exact .inl e
    · exact .inr (hX b e)
  · exact i.base.trans (frz_grow sub')
  · cases q : (frz g h' X).get? G.c with
    | none => rfl
    | some o =>
      exfalso
      rcases frz_inv sub' q with e | e
      · rw [i.gc] at e; cases e
      · obtain ⟨o', _, _, e', _⟩ := i.shr.some
        rw [hX _ e] at e'; cases e'
  · exact i.shr.at hk (frz_grow sub')
theorem Stp.keepAll (i : Inv G g σ s) {h' : Heap} {tk : Nat} (hk : ∀ b o, s.heap.get? b = some o → h'.get? b = some o) : Stp G s g σ { s with heap := h', toks := tk } g := by
  have sub' : Sub g h' := i.sub.trans hk
  exact ⟨⟨_, _, rfl⟩, fun b o _ e => hk b o e, Sub.rfl, fun b o e => .inl e, i.base, sub', i.gc, i.shr.at hk Sub.rfl⟩
end

/-- the tree t ends, by a step to σ', with P -/
noncomputable def Runs {α : Type} (G : Cfg) (A : Around) (s : Shared) (g : Heap) (σ' : Sg) (t : Sem α) (P : α → Heap → Prop) : Prop :=
  wpAny (model G.prog G.w) A t (fun a s' => ∃ g', Stp G s g σ' s' g' ∧ P a g') (fun _ _ => False) s
section
variable {α β : Type} {G : Cfg} {A : Around} {s : Shared} {g : Heap} {σ σ₁ σ₂ : Sg} {E : Value → Shared → Prop}
theorem Runs.use {t : Sem α} {P : α → Heap → Prop} {Q : α → Shared → Prop} (r : Runs G A s g σ₁ t P) (h : ∀ a s' g', Stp G s g σ₁ s' g' → P a g' → Q a s') : wpAny (model G.prog G.w) A t Q E s :=
  wpAny_mono r (fun a s' ⟨g', st, p⟩ => h a s' g' st p) fun _ _ f => f.elim
theorem Runs.mono {t : Sem α} {P P' : α → Heap → Prop} (r : Runs G A s g σ₁ t P) (h : ∀ a g', P a g' → P' a g') : Runs G A s g σ₁ t P' :=
  wpAny_mono r (fun a s' ⟨g', st, p⟩ => ⟨g', st, h a g' p⟩) fun _ _ f => f
theorem Runs.pure {a : α} {P : α → Heap → Prop} (i : Inv G g σ s) (h : P a g) : Runs G A s g σ (pure a) P := wpAny_pure ⟨g, .refl i, h⟩
theorem Runs.bind {m : Sem α} {f : α → Sem β} {P : α → Heap → Prop} {R : β → Heap → Prop} (r : Runs G A s g σ₁ m P)
    (h : ∀ a s' g', Stp G s g σ₁ s' g' → P a g' → Runs G A s' g' σ₂ (f a) R) : Runs G A s g σ₂ (m >>= f) R :=
  wpAny_bind (r.use fun a s' g' st p => wpAny_mono (h a s' g' st p) (fun b s₂ ⟨g₂, st₂, q⟩ => ⟨g₂, st.trans st₂, q⟩) fun _ _ f => f)
/-- on from another state -/
theorem Runs.after {t : Sem α} {P : α → Heap → Prop} {s' : Shared} {g' : Heap} (st : Stp G s g σ₁ s' g') (r : Runs G A s' g' σ₂ t P) :
    wpAny (model G.prog G.w) A t (fun a s₂ => ∃ g₂, Stp G s g σ₂ s₂ g₂ ∧ P a g₂) (fun _ _ => False) s' :=
  wpAny_mono r (fun _ _ ⟨g₂, st₂, q⟩ => ⟨g₂, st.trans st₂, q⟩) fun _ _ f => f
end

/-- room for n calls more -/
structure Room (A : Around) (n : Nat) : Prop where
  handled : A.handled = none
  depth : A.depth + n + 5 < recursionLimit
  units : A.units + 16 * n + 400 < cLine

/-! the syntax that a small program stands for -/
structure Tab where
  fns : List (Str × Nat)
  mths : List (Str × Nat)
  glos : List (Str × Nat)
  cls : Str
structure Cx where
  sc : Scope
  Γ : List (Str × Nat)
noncomputable def Cx.kindOf (cx : Cx) (x : Str) : Option NameKind := cx.sc.names.lookup x
noncomputable def Cx.var (cx : Cx) (x : Str) : Bool := cx.kindOf x == some .local || cx.kindOf x == some .cell || cx.kindOf x == some .free

noncomputable abbrev isOwn := ownB
/-- an environment bears the small one -/
structure EnvOk (G : Cfg) (cx : Cx) (κ : Anc) (g h : Heap) (env : Env) (ρ : List Bnd) : Prop where
  sc : env.scope = cx.sc
  kind : cx.sc.kind = .function
  glob : env.globals = mainGlobals
  bui : env.builtins = builtinsNs
  above : κ.L ≤ env.locals
  lc : env.locals ≠ G.c
  lg : g.get? env.locals = none
  vars : ∃ m, h.Ns env.locals m ∧ ∀ x i b, cx.Γ.lookup x = some i → ρ[i]? = some b → b ≠ .un → cx.kindOf x = some .local → ∃ v, m x = some v ∧ BndIs G κ i g h v b
  cells : ∀ x i b, cx.Γ.lookup x = some i → ρ[i]? = some b → b ≠ .un → (cx.kindOf x = some .cell ∨ cx.kindOf x = some .free) → ∃ a v, env.cells.lookup x = some a ∧ h.IsCell a (some v) ∧ BndIs G κ i g h v b
  clo : ∀ x, (cx.kindOf x = some .cell ∨ cx.kindOf x = some .free) → ∃ a, env.cells.lookup x = some a
  cc : ∀ x a, env.cells.lookup x = some a → a ≠ G.c ∧ g.get? a = none ∧ ∃ v, h.IsCell a v
  cL : ∀ x a, cx.kindOf x = some .cell → env.cells.lookup x = some a → κ.L ≤ a
  ap : ∀ i j b b', ρ[i]? = some b → ρ[j]? = some b' → isOwn b = true → isOwn b' = true → κ.f i = κ.f j → i = j
  apc : ∀ x y a, env.cells.lookup x = some a → env.cells.lookup y = some a → x = y
section
variable {G : Cfg} {cx : Cx} {κ : Anc} {g g' h : Heap} {s s' : Shared} {σ σ' : Sg} {env : Env} {ρ : List Bnd} {v : Value}
theorem Stp.gone (st : Stp G s g σ' s' g') {a : Addr} {o : Obj} (hg : g.get? a = none) (ho : s.heap.get? a = some o) : g'.get? a = none := by
  cases e' : g'.get? a with
  | none => rfl
  | some o' => rcases st.fresh _ _ e' with z | z <;> simp_all
theorem BndIs.step {i : Nat} {b : Bnd} (st : Stp G s g σ' s' g') (x : BndIs G κ i g s.heap v b) : BndIs G κ i g' s'.heap v b := by
  cases b with
  | un => trivial
  | v x' => exact IsV.mono x st.grow
  | own ds =>
    obtain ⟨vs, e, ⟨n, p⟩, i, q, r, t⟩ := x
    exact ⟨vs, e, ⟨n, st.keep _ _ r p⟩, i.mono st.grow, st.gone q p, r, t⟩
theorem EnvOk.step (st : Stp G s g σ' s' g') (x : EnvOk G cx κ g s.heap env ρ) : EnvOk G cx κ g' s'.heap env ρ where
  sc := x.sc
  kind := x.kind
  glob := x.glob
  bui := x.bui
  above := x.above
  lc := x.lc
  lg := by
    obtain ⟨m, ⟨o, es, ep, ho, _⟩, _⟩ := x.vars
    exact st.gone x.lg ho
  vars := by
    obtain ⟨m, n, f⟩ := x.vars
    refine ⟨m, n.at' fun o e => st.keep _ _ x.lc e, fun y i b h1 h2 h3 h4 => ?_⟩
    obtain ⟨v, e, q⟩ := f y i b h1 h2 h3 h4
    exact ⟨v, e, q.step st⟩
  cells := fun y i b h1 h2 h3 h4 => by
    obtain ⟨a, v, e, ⟨o, ho, hd⟩, q⟩ := x.cells y i b h1 h2 h3 h4
    exact ⟨a, v, e, ⟨o, st.keep _ _ (x.cc _ _ e).1 ho, hd⟩, q.step st⟩
  clo := x.clo
  cc := fun y a e => by
    obtain ⟨h1, h2, v, o, ho, hd⟩ := x.cc y a e
    exact ⟨h1, st.gone h2 ho, v, o, st.keep _ _ h1 ho, hd⟩
  cL := x.cL
  ap := x.ap
  apc := x.apc
end
end Mine

namespace Mine
open PySem PySem.W PyProof.Rows PySem.Calls

theorem lim_line {n : Nat} (h : n ≤ lim) : n ≤ sizeLine := Nat.le_trans h (by decide)
section
variable {G : Cfg} {A : Around} {s : Shared} {g : Heap} {σ : Sg} {E : Value → Shared → Prop} {v u : Value} {x y d : PyData} {xs ys : List PyData}

/-- the objects are there in the heap *)-/
theorem Is.tup_at (i : Inv G g σ s) (h : Is g v (.tuple xs)) : ∃ a vs, v = .ref a ∧ IsTup s.heap a vs ∧ IsAll g vs.toList xs := by
  obtain ⟨a, o, vs, n, e, ho, hc, hd, r⟩ := h.tuple_inv
  exact ⟨a, vs, e, ⟨o, i.sub _ _ ho, hc, n, hd⟩, r⟩
theorem Is.lst_at (i : Inv G g σ s) (h : Is g v (.list xs)) : ∃ a vs, v = .ref a ∧ s.heap.IsList a vs ∧ IsAll g vs.toList xs := by
  obtain ⟨a, o, vs, n, e, ho, hc, hd, r⟩ := h.list_inv
  exact ⟨a, vs, e, ⟨o, i.sub _ _ ho, hc, n, hd⟩, r⟩
theorem Is.heap (i : Inv G g σ s) (h : Is g v x) : Is s.heap v x := h.mono i.sub

/-- a new tuple or list *)-/
theorem Stp.newSeq (i : Inv G g σ s) {T : String} {vs : List Value} {h' : Heap} {tk : Nat} (hT : T = "tuple" ∨ T = "list") (hk : ∀ b o, s.heap.get? b = some o → h'.get? b = some o) {a : Addr} (ha : s.heap.get? a = none)
    {n : Nat} (ho : h'.get? a = some { cls := .type T, data := .seq vs.toArray n }) (r : IsAll g vs xs) :
    ∃ g', Stp G s g σ { s with heap := h', toks := tk } g' ∧ Is g' (.ref a) (if T = "tuple" then .tuple xs else .list xs) := by
  refine ⟨frz g h' (· = a), .all i hk _ (fun b e => e ▸ ha), ?_⟩
  have ho' : (frz g h' (· = a)).get? a = some { cls := .type T, data := .seq vs.toArray n } := frz_new rfl ho
  have r' : IsAll (frz g h' (· = a)) vs.toArray.toList xs := by simpa using r.mono (frz_grow (i.sub.trans hk))
  rcases hT with rfl | rfl
  · rw [if_pos rfl]; exact Is.tuple ho' rfl rfl r'
  · rw [if_neg (by decide)]; exact Is.list ho' rfl rfl r'
theorem size_none {h : Heap} : h.get? h.objs.size = none := by
  cases e : h.get? h.objs.size with
  | none => rfl
  | some o => exact absurd (Heap.lt_size e) (Nat.lt_irrefl _)
theorem Stp.pushTup (i : Inv G g σ s) {vs : List Value} {tk : Nat} (r : IsAll g vs xs) :
    ∃ g', Stp G s g σ { s with heap := s.heap.push { cls := .type "tuple", data := .seq vs.toArray }, toks := tk } g' ∧ Is g' (.ref s.heap.objs.size) (.tuple xs) := by
  have := Stp.newSeq (T := "tuple") (tk := tk) i (.inl rfl) (fun b o e => Heap.get?_push_of_some { cls := .type "tuple", data := .seq vs.toArray } e) size_none (Heap.get?_push_size _ rfl) r
  rwa [if_pos rfl] at this
theorem Stp.pushLst (i : Inv G g σ s) {vs : List Value} {tk : Nat} (r : IsAll g vs xs) :
    ∃ g', Stp G s g σ { s with heap := s.heap.push { cls := .type "list", data := .seq vs.toArray }, toks := tk } g' ∧ Is g' (.ref s.heap.objs.size) (.list xs) := by
  have := Stp.newSeq (T := "list") (tk := tk) i (.inr rfl) (fun b o e => Heap.get?_push_of_some { cls := .type "list", data := .seq vs.toArray } e) size_none (Heap.get?_push_size _ rfl) r
  rwa [if_neg (by decide)] at this

/-! item -/
theorem idx_seqIndex {n : Nat} {k : Int} {j : Nat} (h : idx n k = some j) : seqIndex? k n = some j := by
  unfold idx at h
  unfold seqIndex?
  by_cases h0 : 0 ≤ k
  · rw [if_pos h0] at h
    split at h
    · cases h
      have : ¬ k < 0 := by (first | lia | omega)
      simp only [this, if_false]
      rw [if_pos (by simp only [Bool.and_eq_true, decide_eq_true_eq]; (first | lia | omega))]
    · cases h
  · rw [if_neg h0] at h
    split at h
    · rename_i h1
      cases h
      have : k < 0 := by (first | lia | omega)
      simp only [this, if_true]
      rw [if_pos (by simp only [Bool.and_eq_true, decide_eq_true_eq]; (first | lia | omega))]
    · cases h
theorem idx_small {n : Nat} {k : Int} {j : Nat} (h : idx n k = some j) (hn : n ≤ sizeLine) : -(2 ^ 63) ≤ k ∧ k < 2 ^ 63 := by
  have e : sizeLine = 16777216 := by decide
  unfold idx at h
  split at h
  · split at h
    · cases h; (first | lia | omega)
    · cases h
  · split at h
    · cases h; (first | lia | omega)
    · cases h
noncomputable def plainSub (sl : Expr) : Prop := ∀ o i, subscripted sl false o i = operate [o, i] (getItem o i)
theorem item_run {value slice : Expr} (hs : plainSub slice) (i : Inv G g σ s) {k : Int} (hv : Is g v x) (hu : Is g u (.int k)) (h : itemD x k = some d) (hk : -(2 ^ 63) ≤ k ∧ k < 2 ^ 63) :
    Runs G A s g σ (subscriptTail value slice v u) (fun r g' => Is g' r d) := by
  obtain ⟨t, rfl⟩ := hu.int_inv
  cases x with
  | tuple xs =>
    obtain ⟨a, vs, rfl, ht, r⟩ := hv.tup_at i
    simp only [itemD, Option.bind_eq_some_iff] at h
    obtain ⟨j, hj, hd⟩ := h
    obtain ⟨w, hw, rw'⟩ := r.get hd
    refine item_tupleT (l := vs.toList) (j := j) (x := w) (by simpa using ht) hk.1 hk.2 ?_ hw ⟨g, .refl i, rw'⟩ (hs _ _)
    rw [r.length]; exact idx_seqIndex hj
  | list xs =>
    obtain ⟨a, vs, rfl, ht, r⟩ := hv.lst_at i
    simp only [itemD, Option.bind_eq_some_iff] at h
    obtain ⟨j, hj, hd⟩ := h
    obtain ⟨w, hw, rw'⟩ := r.get hd
    have hl := r.length
    rw [Array.length_toList] at hl
    unfold idx at hj
    split at hj
    · rename_i h0
      refine tail_any ht.typeIs slot_list_getitem.lookup (wpAny_getItem_list (x := w) ht h0 hk.2 ?_ ⟨g, .refl i, rw'⟩) (hs _ _)
      split at hj
      · cases hj; simpa using hw
      · cases hj
    · split at hj
      · rename_i h0 h1
        refine tail_any ht.typeIs slot_list_getitem.lookup (wpAny_getItem_list_neg (x := w) ht (by (first | lia | omega)) (by (first | lia | omega)) hk.1 ?_ ⟨g, .refl i, rw'⟩) (hs _ _)
        cases hj; rw [hl]; simpa using hw
      · cases hj
  | _ => simp [itemD] at h

/-! comparisons -/
theorem eq_run (i : Inv G g σ s) {n : Nat} (rm : Room A n) (hv : Is g v x) (hu : Is g u y) {b : Bool} (h : cmpD .eq x y = some b) :
    Runs G A s g σ (compareOp .Eq v u) (fun r g' => Is g' r (.bool b)) := by
  simp only [cmpD] at h
  split at h
  · rename_i hk
    cases h
    obtain ⟨h1, h2⟩ := Bool.and_eq_true_iff.mp hk
    obtain ⟨as, r1⟩ := hv.heap i
    obtain ⟨bs, r2⟩ := hu.heap i
    exact eq_dataH r1 r2 h1 h2 (by have := rm.units; (first | lia | omega)) ⟨g, .refl i, .bool⟩
  · cases h
theorem ne_run (i : Inv G g σ s) {n : Nat} (rm : Room A n) (hv : Is g v x) (hu : Is g u y) {b : Bool} (h : cmpD .ne x y = some b) :
    Runs G A s g σ (compareOp .NotEq v u) (fun r g' => Is g' r (.bool b)) := by
  simp only [cmpD] at h
  split at h
  · rename_i hk
    cases h
    obtain ⟨h1, h2⟩ := Bool.and_eq_true_iff.mp hk
    obtain ⟨as, r1⟩ := hv.heap i
    obtain ⟨bs, r2⟩ := hu.heap i
    exact ne_dataH r1 r2 h1 h2 (by have := rm.units; (first | lia | omega)) ⟨g, .refl i, .bool⟩
  · cases h
theorem shaped_list {xs : List PyData} (h : SeqAt.shaped (.list xs) = true) : PyData.canLayAll0 xs = true ∧ PyData.depthAll xs ≤ 63 := by
  have a := SeqAt.canLay_of_shaped h
  have b := SeqAt.depth_of_shaped h
  simp only [PyData.canLay0] at a
  simp only [PyData.depth] at b
  exact ⟨a, by (first | lia | omega)⟩
theorem shaped_tuple {xs : List PyData} (h : SeqAt.shaped (.tuple xs) = true) : PyData.canLayAll0 xs = true ∧ PyData.depthAll xs ≤ 63 := by
  have a := SeqAt.canLay_of_shaped h
  have b := SeqAt.depth_of_shaped h
  simp only [PyData.canLay0] at a
  simp only [PyData.depth] at b
  exact ⟨a, by (first | lia | omega)⟩
theorem in_run (i : Inv G g σ s) {n : Nat} (rm : Room A n) (hv : Is g v x) (hu : Is g u y) {b : Bool} (h : cmpD .isIn x y = some b) :
    Runs G A s g σ (compareOp .In v u) (fun r g' => Is g' r (.bool b)) := by
  obtain ⟨as, r1⟩ := hv.heap i
  obtain ⟨bs, r2⟩ := hu.heap i
  have ru := rm.units
  cases y with
  | list xs =>
    simp only [cmpD, seqOf] at h
    split at h
    · rename_i hk
      cases h
      obtain ⟨h1, h2⟩ := Bool.and_eq_true_iff.mp hk
      have q := shaped_list h2
      refine SeqAt.in_list_reads r2 r1 q.1 (SeqAt.canLay_of_shaped h1) ?_ ⟨g, .refl i, .bool⟩
      have := Nat.min_le_left (PyData.depthAll xs) x.depth
      (first | lia | omega)
    · cases h
  | tuple xs =>
    simp only [cmpD, seqOf] at h
    split at h
    · rename_i hk
      cases h
      obtain ⟨h1, h2⟩ := Bool.and_eq_true_iff.mp hk
      have q := shaped_tuple h2
      refine SeqAt.in_tuple_reads r2 r1 q.1 (SeqAt.canLay_of_shaped h1) ?_ ⟨g, .refl i, .bool⟩
      have := Nat.min_le_left (PyData.depthAll xs) x.depth
      (first | lia | omega)
    · cases h
  | _ => simp [cmpD, seqOf] at h
theorem notIn_run (i : Inv G g σ s) {n : Nat} (rm : Room A n) (hv : Is g v x) (hu : Is g u y) {b : Bool} (h : cmpD .notIn x y = some b) :
    Runs G A s g σ (compareOp .NotIn v u) (fun r g' => Is g' r (.bool b)) := by
  obtain ⟨as, r1⟩ := hv.heap i
  obtain ⟨bs, r2⟩ := hu.heap i
  have ru := rm.units
  cases y with
  | list xs =>
    simp only [cmpD, seqOf] at h
    split at h
    · rename_i hk
      cases h
      obtain ⟨h1, h2⟩ := Bool.and_eq_true_iff.mp hk
      have q := shaped_list h2
      refine SeqAt.notIn_list_reads r2 r1 q.1 (SeqAt.canLay_of_shaped h1) ?_ ⟨g, .refl i, .bool⟩
      have := Nat.min_le_left (PyData.depthAll xs) x.depth
      (first | lia | omega)
    · cases h
  | tuple xs =>
    simp only [cmpD, seqOf] at h
    split at h
    · rename_i hk
      cases h
      obtain ⟨h1, h2⟩ := Bool.and_eq_true_iff.mp hk
      have q := shaped_tuple h2
      refine SeqAt.notIn_tuple_reads r2 r1 q.1 (SeqAt.canLay_of_shaped h1) ?_ ⟨g, .refl i, .bool⟩
      have := Nat.min_le_left (PyData.depthAll xs) x.depth
      (first | lia | omega)
    · cases h
  | _ => simp [cmpD, seqOf] at h
noncomputable def copOf : COp → CmpOp
  | .eq => .Eq | .ne => .NotEq | .lt => .Lt | .gt => .Gt | .isIn => .In | .notIn => .NotIn
theorem cmp_run (i : Inv G g σ s) {n : Nat} (rm : Room A n) {o : COp} (hv : Is g v x) (hu : Is g u y) {b : Bool} (h : cmpD o x y = some b) :
    Runs G A s g σ (compareOp (copOf o) v u) (fun r g' => Is g' r (.bool b)) := by
  cases o with
  | eq => exact eq_run i rm hv hu h
  | ne => exact ne_run i rm hv hu h
  | isIn => exact in_run i rm hv hu h
  | notIn => exact notIn_run i rm hv hu h
  | lt =>
    cases x <;> cases y <;> simp only [cmpD] at h <;> try cases h
    obtain ⟨t, rfl⟩ := hv.int_inv
    obtain ⟨t', rfl⟩ := hu.int_inv
    exact wpAny_lt_int ⟨g, .refl i, .bool⟩
  | gt =>
    cases x <;> cases y <;> simp only [cmpD] at h <;> try cases h
    obtain ⟨t, rfl⟩ := hv.int_inv
    obtain ⟨t', rfl⟩ := hu.int_inv
    exact gt_int ⟨g, .refl i, .bool⟩

/-! arithmetic, + -/
noncomputable def bopOf : BOp → Operator
  | .add => .Add | .sub => .Sub | .mul => .Mult | .mod => .Mod
theorem intOk_bits {a : Int} (h : intOk a = true) : Builtin.Int.intBits a ≤ 64 := by
  simp only [intOk, Bool.and_eq_true, decide_eq_true_eq] at h
  exact intBits_le_64 (by (first | lia | omega)) (by (first | lia | omega))
theorem mkT_eq {xs : List PyData} {d : PyData} (h : mkT xs = some d) : d = .tuple xs ∧ xs.length ≤ lim := by
  unfold mkT at h; split at h
  · cases h; exact ⟨rfl, by assumption⟩
  · cases h
theorem mkL_eq {xs : List PyData} {d : PyData} (h : mkL xs = some d) : d = .list xs ∧ xs.length ≤ lim := by
  unfold mkL at h; split at h
  · cases h; exact ⟨rfl, by assumption⟩
  · cases h
theorem mkI_eq {i : Int} {d : PyData} (h : mkI i = some d) : d = .int i := by
  unfold mkI at h; split at h
  · cases h; rfl
  · cases h
theorem mkS_eq {x : Str} {d : PyData} (h : mkS x = some d) : d = .str x ∧ x.length ≤ lim := by
  unfold mkS at h; split at h
  · cases h; exact ⟨rfl, by assumption⟩
  · cases h
theorem addTup_run (i : Inv G g σ s) (hv : Is g v (.tuple xs)) (hu : Is g u (.tuple ys)) (hl : (xs ++ ys).length ≤ lim) :
    Runs G A s g σ (binaryOp .Add v u) (fun r g' => Is g' r (.tuple (xs ++ ys))) := by
  have hv' := hv
  have hu' := hu
  obtain ⟨a, ⟨cls, dd, data, sl⟩, vs, n, rfl, ho, hc, hd, r⟩ := hv.tuple_inv
  obtain ⟨b, ⟨cls2, dd2, data2, sl2⟩, us, n2, rfl, ho2, hc2, hd2, r2⟩ := hu.tuple_inv
  simp only at hc hd hc2 hd2
  subst hc hd hc2 hd2
  have h1 := i.sub _ _ ho
  have h2 := i.sub _ _ ho2
  have l1 := r.length
  have l2 := r2.length
  rw [List.length_append] at hl
  simp only [Array.length_toList] at l1 l2
  by_cases e1 : vs.isEmpty = true
  · have : xs = [] := List.eq_nil_of_length_eq_zero (by rw [← l1]; simpa using e1)
    subst this
    exact concat_meets ⟨_, h1, rfl⟩ ⟨_, h2, rfl⟩ noFill_tuple_add seq_tuple_add PySem.F.slot_tuple_add PySem.F.entry_tuple_add (PySem.F.args_tuple_add_2 _ _)
      (tuple_addW0 _ _ _ _ _ _ _ _ _ _ e1) ⟨h1, h2, ⟨g, Stp.refl i, hu'⟩⟩
  · by_cases e2 : us.isEmpty = true
    · have : ys = [] := List.eq_nil_of_length_eq_zero (by rw [← l2]; simpa using e2)
      subst this
      rw [List.append_nil]
      exact concat_meets ⟨_, h1, rfl⟩ ⟨_, h2, rfl⟩ noFill_tuple_add seq_tuple_add PySem.F.slot_tuple_add PySem.F.entry_tuple_add (PySem.F.args_tuple_add_2 _ _)
        (tuple_addW1 _ _ _ _ _ _ _ _ _ _ e1 e2) ⟨h1, h2, ⟨g, Stp.refl i, hv'⟩⟩
    · have ap : IsAll g (vs.toList ++ us.toList) (xs ++ ys) := r.append r2
      obtain ⟨g', st, q⟩ := Stp.pushTup (tk := s.toks) i ap
      refine concat_meets ⟨_, h1, rfl⟩ ⟨_, h2, rfl⟩ noFill_tuple_add seq_tuple_add PySem.F.slot_tuple_add PySem.F.entry_tuple_add (PySem.F.args_tuple_add_2 _ _)
        (tuple_addW2 _ _ _ _ _ _ _ _ _ _ e1 e2 (lim_line (by rw [l1, l2]; exact hl))) ⟨h1, h2, ⟨g', ?_, q⟩⟩
      have e : (vs.toList ++ us.toList).toArray = vs ++ us := by simp
      rwa [e] at st
theorem addLst_run (i : Inv G g σ s) (hv : Is g v (.list xs)) (hu : Is g u (.list ys)) (hl : (xs ++ ys).length ≤ lim) :
    Runs G A s g σ (binaryOp .Add v u) (fun r g' => Is g' r (.list (xs ++ ys))) := by
  obtain ⟨a, ⟨cls, dd, data, sl⟩, vs, n, rfl, ho, hc, hd, r⟩ := hv.list_inv
  obtain ⟨b, ⟨cls2, dd2, data2, sl2⟩, us, n2, rfl, ho2, hc2, hd2, r2⟩ := hu.list_inv
  simp only at hc hd hc2 hd2
  subst hc hd hc2 hd2
  have h1 := i.sub _ _ ho
  have h2 := i.sub _ _ ho2
  have l1 := r.length
  have l2 := r2.length
  rw [List.length_append] at hl
  simp only [Array.length_toList] at l1 l2
  obtain ⟨g', st, q⟩ := Stp.pushLst (tk := s.toks) i (r.append r2)
  refine concat_meets ⟨_, h1, rfl⟩ ⟨_, h2, rfl⟩ noFill_list_add seq_list_add PySem.F.slot_list_add PySem.F.entry_list_add (PySem.F.args_list_add_2 _ _)
    (list_addW _ _ _ _ _ _ _ _ _ _ (lim_line (by rw [l1, l2]; exact hl))) ⟨h1, h2, ⟨g', ?_, q⟩⟩
  have e : (vs.toList ++ us.toList).toArray = vs ++ us := by simp
  rwa [e] at st
theorem bin_run (i : Inv G g σ s) {o : BOp} (hv : Is g v x) (hu : Is g u y) (h : binD o x y = some d) :
    Runs G A s g σ (binaryOp (bopOf o) v u) (fun r g' => Is g' r d) := by
  unfold binD at h
  split at h
  · split at h
    · obtain ⟨t, rfl⟩ := hv.int_inv
      obtain ⟨t', rfl⟩ := hu.int_inv
      obtain rfl := mkI_eq h
      exact add_int ⟨g, .tok i _, .int⟩
    · cases h
  · split at h
    · obtain ⟨t, rfl⟩ := hv.int_inv
      obtain ⟨t', rfl⟩ := hu.int_inv
      obtain rfl := mkI_eq h
      exact sub_int ⟨g, .tok i _, .int⟩
    · cases h
  · split at h
    · rename_i hk
      obtain ⟨t, rfl⟩ := hv.int_inv
      obtain ⟨t', rfl⟩ := hu.int_inv
      obtain rfl := mkI_eq h
      exact mul_int ⟨g, .tok i _, .int⟩ (IntMulOk.of_left (intOk_bits (Bool.and_eq_true_iff.mp hk).1))
    · cases h
  · split at h
    · rename_i hk
      obtain ⟨t, rfl⟩ := hv.int_inv
      obtain ⟨t', rfl⟩ := hu.int_inv
      obtain rfl := mkI_eq h
      have hb := of_decide_eq_true hk
      refine mod_int' (by (first | lia | omega)) ⟨g, .tok i _, ?_⟩
      rw [Int.fmod_eq_emod_of_nonneg _ (by (first | lia | omega))]
      exact .int
    · cases h
  · obtain ⟨rfl, hl⟩ := mkT_eq h; exact addTup_run i hv hu hl
  · obtain ⟨rfl, hl⟩ := mkL_eq h; exact addLst_run i hv hu hl
  · obtain ⟨t, rfl⟩ := hv.str_inv
    obtain ⟨t', rfl⟩ := hu.str_inv
    obtain ⟨rfl, hl⟩ := mkS_eq h
    exact add_str (fun t' tk => ⟨g, .tok i _, .str⟩) (lim_line (by rwa [← Str.length_append]))
  · cases h
end
end Mine

namespace PySem.SeqAt
open MeetsSeq MeetsSeq2 MeetsSeq3 SeqRoads2
open AutoSeq1 (wpAny_loadPart')
end PySem.SeqAt
namespace Mine
open PySem PySem.W PyProof.Rows PySem.Calls PySem.SeqAt
open MeetsSeq MeetsSeq2 MeetsSeq3 SeqRoads2
open AutoSeq1 (wpAny_loadPart')

noncomputable def LtAt (A : Around) (s : Shared) (y x : Value) (b : Bool) : Prop :=
  ∀ (prog : Program) (w : World) (E : Value → Shared → Prop) (Q : Value → Shared → Prop), Q (.bool b) s → wpAny (model prog w) A (richCompare .Lt y x) Q E s
noncomputable def LexAt (A : Around) (s : Shared) (fin r : Bool) : List (Value × Value) → Prop
  | [] => r = fin
  | (x, y) :: l => ∃ e, EqAt A s x y e ∧ if e = true then LexAt A s fin r l else LtAt A s x y r

theorem tuple_ltAt (l b : Addr) (items items2 : Array Value) (n n2 : Nat) (dd dd2 : Option Addr) (sl sl2 : Array (Option Value)) (r : Bool) :
    Meets (Builtin.«tuple.__lt__» ⟨[.ref l, .ref b], []⟩)
      (fun A R s => s.heap.get? l = some { cls := .type "tuple", dict := dd, data := .seq items n, slots := sl } ∧ s.heap.get? b = some { cls := .type "tuple", dict := dd2, data := .seq items2 n2, slots := sl2 } ∧
        LexAt A.in1 s (decide (items.size < items2.size)) r (items.toList.zip items2.toList) ∧
        R (.ok (.ret (.bool r))) s) :=
  .of_wp fun prog w A R s h => by
    obtain ⟨hp, g, d, tk, os⟩ := s; obtain ⟨hl, hb, he, h⟩ := h
    have f2 := AutoSeq1.sub_tuple_tuple
    wp_walk using wpAny_loadPart' hl, wpAny_loadPart' hb, wpAny_forIn_list _ (fun rest b s' => b.1 = none ∧ s' = ⟨hp, g, d, tk, os⟩ ∧ LexAt A.in1 ⟨hp, g, d, tk, os⟩ (decide (items.size < items2.size)) r rest) _
    case turn =>
      rintro ⟨y, x⟩ rest b s' ⟨hb', rfl, e, heq, hrest⟩
      refine wpAny_bind (heq prog w _ _ ?_)
      cases e with
      | true =>
        rw [if_pos rfl] at hrest
        wp_walk
        exact ⟨rfl, rfl, hrest⟩
      | false =>
        rw [if_neg (by simp)] at hrest
        unfold LtAt at hrest
        generalize richCompare .Lt y x = t at hrest ⊢
        wp_walk
        refine hrest prog w _ _ ?_
        wp_walk
        exact ⟨_, rfl, h⟩
    case fin =>
      rintro ⟨b1, b2⟩ s' ⟨hb', rfl, hR⟩
      simp only at hb'
      subst hb'
      wp_walk
      have hR' : r = decide (items.size < items2.size) := hR
      rw [hR'] at h
      exact ⟨_, rfl, h⟩
    case h =>
      exact ⟨rfl, rfl, he⟩

theorem lt_loopAt (l b : Addr) (items items2 : Array Value) (n n2 : Nat) (dd dd2 : Option Addr) (sl sl2 : Array (Option Value)) (r : Bool) (k : Nat) :
    ∀ i : Nat, min items.size items2.size - i = k → Meets (Builtin.«list.__eq__.loop» ⟨[.ref l, .ref b, rawInt i, rawInt 0], []⟩)
      (fun A R s => s.heap.get? l = some { cls := .type "list", dict := dd, data := .seq items n, slots := sl } ∧ s.heap.get? b = some { cls := .type "list", dict := dd2, data := .seq items2 n2, slots := sl2 } ∧
        LexAt A.in1 s (decide (items.size < items2.size)) r ((items.toList.zip items2.toList).drop i) ∧
        R (.ok (.ret (.bool r))) s) := by
  have hZ : (items.toList.zip items2.toList).length = min items.size items2.size := by simp
  induction k with
  | zero =>
    intro i hk prog w A R s h
    obtain ⟨hp, g, d, tk, os⟩ := s; obtain ⟨hl, hb, he, h⟩ := h
    rw [List.drop_of_length_le (by omega)] at he
    have he' : r = decide (items.size < items2.size) := he
    wp_walk using wpAny_loadPart' hl, wpAny_loadPart' hb
    rcases Nat.lt_or_ge i items.size with h1 | h1
    · have hi1 : items[((i : Nat) : Int).toNat]? = some items[i] := by simp [h1]
      have hi2 : items2[((i : Nat) : Int).toNat]? = none := by simp; omega
      rw [hi1, hi2]
      wp_walk using wpAny_loadPart' hl, wpAny_loadPart' hb
      rw [he'] at h
      exact h
    · have hi1 : items[((i : Nat) : Int).toNat]? = none := by simp; omega
      rw [hi1]
      wp_walk using wpAny_loadPart' hl, wpAny_loadPart' hb
      rw [he'] at h
      exact h
  | succ k ih =>
    intro i hk prog w A R s h
    obtain ⟨hp, g, d, tk, os⟩ := s; obtain ⟨hl, hb, he, h⟩ := h
    wp_walk using wpAny_loadPart' hl, wpAny_loadPart' hb
    have hlt : i < items.size := by omega
    have hlt2 : i < items2.size := by omega
    have hi1 : items[((i : Nat) : Int).toNat]? = some items[i] := by simp [hlt]
    have hi2 : items2[((i : Nat) : Int).toNat]? = some items2[i] := by simp [hlt2]
    have hd : (items.toList.zip items2.toList).drop i = (items[i], items2[i]) :: (items.toList.zip items2.toList).drop (i + 1) := by
      rw [List.drop_eq_getElem_cons (by omega)]; simp
    have hc : ((i : Int) + 1) = ((i + 1 : Nat) : Int) := by push_cast; rfl
    rw [hd] at he
    obtain ⟨e, heq, hrest⟩ := he
    rw [hi1, hi2]
    refine wpAny_bind (heq prog w _ _ ?_)
    cases e with
    | true =>
      rw [if_pos rfl] at hrest
      wp_walk
      rw [hc]
      exact ⟨plainId_quiet plain_eq_loop _, codeAny_builtin entry_eq_loop (by
        rw [Around.under_plainId plain_eq_loop _]
        exact ih (i + 1) (by omega) prog w A R _ ⟨hl, hb, hrest, h⟩)⟩
    | false =>
      rw [if_neg (by simp)] at hrest
      unfold LtAt at hrest
      wp_walk using wpAny_loadPart' hl, wpAny_loadPart' hb
      rw [hi1, hi2]
      dsimp only
      refine wpAny_bind (hrest prog w _ _ ?_)
      wp_walk
      exact h

theorem list_ltAt (l b : Addr) (items items2 : Array Value) (n n2 : Nat) (dd dd2 : Option Addr) (sl sl2 : Array (Option Value)) (r : Bool) :
    Meets (Builtin.«list.__lt__» ⟨[.ref l, .ref b], []⟩)
      (fun A R s => s.heap.get? l = some { cls := .type "list", dict := dd, data := .seq items n, slots := sl } ∧ s.heap.get? b = some { cls := .type "list", dict := dd2, data := .seq items2 n2, slots := sl2 } ∧
        LexAt A.in1 s (decide (items.size < items2.size)) r (items.toList.zip items2.toList) ∧
        R (.ok (.ret (.bool r))) s) := by
  intro prog w A R s h
  obtain ⟨hp, g, d, tk, os⟩ := s; obtain ⟨hl, hb, he, h⟩ := h
  have f3 := AutoSeq1.sub_list_list
  wp_walk using wpAny_loadPart' hl, wpAny_loadPart' hb
  exact ⟨plainId_quiet plain_eq_loop _, codeAny_builtin entry_eq_loop (by
    rw [Around.under_plainId plain_eq_loop _]
    exact lt_loopAt l b items items2 n n2 dd dd2 sl sl2 r _ 0 rfl prog w A R _ ⟨hl, hb, by simpa using he, h⟩)⟩

section
variable {A : Around} {s : Shared}
theorem LtAt.tuples {l b : Addr} {items items2 : Array Value} {r : Bool} (hl : s.heap.IsTuple l items) (hb : s.heap.IsTuple b items2) (hu : A.units < cLine)
    (he : LexAt A.in1 s (decide (items.size < items2.size)) r (items.toList.zip items2.toList)) : LtAt A s (.ref l) (.ref b) r := fun prog w E Q h => by
  obtain ⟨⟨cls, dd, data, sl⟩, ho, hc, n, hd⟩ := id hl
  obtain ⟨⟨cls2, dd2, data2, sl2⟩, ho2, hc2, n2, hd2⟩ := id hb
  simp only at hc hd hc2 hd2
  subst hc hd hc2 hd2
  exact richCompare_meets_room (op := .Lt) ⟨_, ho, rfl⟩ ⟨_, ho2, rfl⟩ PySem.F.slot_tuple_lt PySem.F.entry_tuple_lt (PySem.F.args_tuple_lt_2 _ _) (tuple_ltAt l b items items2 n n2 dd dd2 sl sl2 r)
    ⟨ho, ho2, he, show Value.bool r ≠ Value.notImplemented ∧ Q (.bool r) s from ⟨(fun x => nomatch x), h⟩⟩ hu
theorem LtAt.lists {l b : Addr} {items items2 : Array Value} {r : Bool} (hl : s.heap.IsList l items) (hb : s.heap.IsList b items2) (hu : A.units < cLine)
    (he : LexAt A.in1 s (decide (items.size < items2.size)) r (items.toList.zip items2.toList)) : LtAt A s (.ref l) (.ref b) r := fun prog w E Q h => by
  obtain ⟨⟨cls, dd, data, sl⟩, ho, hc, n, hd⟩ := id hl
  obtain ⟨⟨cls2, dd2, data2, sl2⟩, ho2, hc2, n2, hd2⟩ := id hb
  simp only at hc hd hc2 hd2
  subst hc hd hc2 hd2
  exact richCompare_meets_room (op := .Lt) ⟨_, ho, rfl⟩ ⟨_, ho2, rfl⟩ PySem.F.slot_list_lt PySem.F.entry_list_lt (PySem.F.args_list_lt_2 _ _) (list_ltAt l b items items2 n n2 dd dd2 sl sl2 r)
    ⟨ho, ho2, he, show Value.bool r ≠ Value.notImplemented ∧ Q (.bool r) s from ⟨(fun x => nomatch x), h⟩⟩ hu
end

mutual
theorem ltAt_reads : ∀ (da db : PyData) (r : Bool), ltD da db = some r → ∀ (A : Around) (s : Shared) (a b : Value) (as bs : List Addr), Reads s.heap a da as → Reads s.heap b db bs → da.canLay0 = true → db.canLay0 = true →
    A.units + da.depth < cLine → LtAt A s a b r
  | .int x, .int y, r, h, A, s, _, _, _, _, ra, rb, _, _, _ => by
    cases ra; cases rb
    simp only [ltD, Option.some.injEq] at h
    subst h
    exact fun prog w E Q hq => wpAny_lt_int hq
  | .str x, .str y, r, h, A, s, _, _, _, _, ra, rb, _, _, _ => by
    cases ra; cases rb
    simp only [ltD, Option.some.injEq] at h
    subst h
    exact fun prog w E Q hq => PyProof.Rows.lt_str hq
  | .tuple xs, .tuple ys, r, h, A, s, _, _, _, _, ra, rb, ha, hb, hu => by
    cases ra with
    | @tuple l o vs n _ as₁ h1 h2 h3 h4 =>
      cases rb with
      | @tuple l' o' vs' n' _ bs₁ k1 k2 k3 k4 =>
        rw [ltD] at h
        simp only [PyData.depth] at hu
        refine LtAt.tuples ⟨_, h1, h2, _, h3⟩ ⟨_, k1, k2, _, k3⟩ (by omega) ?_
        have := lexAt_reads xs ys r h A.in1 s vs.toList vs'.toList _ _ h4 k4 ha hb (by show A.units + 1 + _ < _; omega)
        simpa using this
  | .list xs, .list ys, r, h, A, s, _, _, _, _, ra, rb, ha, hb, hu => by
    cases ra with
    | @list l o vs n _ as₁ h1 h2 h3 h4 =>
      cases rb with
      | @list l' o' vs' n' _ bs₁ k1 k2 k3 k4 =>
        rw [ltD] at h
        simp only [PyData.depth] at hu
        refine LtAt.lists ⟨_, h1, h2, _, h3⟩ ⟨_, k1, k2, _, k3⟩ (by omega) ?_
        have := lexAt_reads xs ys r h A.in1 s vs.toList vs'.toList _ _ h4 k4 ha hb (by show A.units + 1 + _ < _; omega)
        simpa using this
  | .none, _, _, h, _, _, _, _, _, _, _, _, _, _, _ => by simp [ltD] at h
  | .bool _, _, _, h, _, _, _, _, _, _, _, _, _, _, _ => by simp [ltD] at h
  | .dict _, _, _, h, _, _, _, _, _, _, _, _, _, _, _ => by simp [ltD] at h
  | .int _, .none, _, h, _, _, _, _, _, _, _, _, _, _, _ => by simp [ltD] at h
  | .int _, .bool _, _, h, _, _, _, _, _, _, _, _, _, _, _ => by simp [ltD] at h
  | .int _, .str _, _, h, _, _, _, _, _, _, _, _, _, _, _ => by simp [ltD] at h
  | .int _, .list _, _, h, _, _, _, _, _, _, _, _, _, _, _ => by simp [ltD] at h
  | .int _, .tuple _, _, h, _, _, _, _, _, _, _, _, _, _, _ => by simp [ltD] at h
  | .int _, .dict _, _, h, _, _, _, _, _, _, _, _, _, _, _ => by simp [ltD] at h
  | .str _, .none, _, h, _, _, _, _, _, _, _, _, _, _, _ => by simp [ltD] at h
  | .str _, .bool _, _, h, _, _, _, _, _, _, _, _, _, _, _ => by simp [ltD] at h
  | .str _, .int _, _, h, _, _, _, _, _, _, _, _, _, _, _ => by simp [ltD] at h
  | .str _, .list _, _, h, _, _, _, _, _, _, _, _, _, _, _ => by simp [ltD] at h
  | .str _, .tuple _, _, h, _, _, _, _, _, _, _, _, _, _, _ => by simp [ltD] at h
  | .str _, .dict _, _, h, _, _, _, _, _, _, _, _, _, _, _ => by simp [ltD] at h
  | .tuple _, .none, _, h, _, _, _, _, _, _, _, _, _, _, _ => by simp [ltD] at h
  | .tuple _, .bool _, _, h, _, _, _, _, _, _, _, _, _, _, _ => by simp [ltD] at h
  | .tuple _, .str _, _, h, _, _, _, _, _, _, _, _, _, _, _ => by simp [ltD] at h
  | .tuple _, .list _, _, h, _, _, _, _, _, _, _, _, _, _, _ => by simp [ltD] at h
  | .tuple _, .int _, _, h, _, _, _, _, _, _, _, _, _, _, _ => by simp [ltD] at h
  | .tuple _, .dict _, _, h, _, _, _, _, _, _, _, _, _, _, _ => by simp [ltD] at h
  | .list _, .none, _, h, _, _, _, _, _, _, _, _, _, _, _ => by simp [ltD] at h
  | .list _, .bool _, _, h, _, _, _, _, _, _, _, _, _, _, _ => by simp [ltD] at h
  | .list _, .str _, _, h, _, _, _, _, _, _, _, _, _, _, _ => by simp [ltD] at h
  | .list _, .tuple _, _, h, _, _, _, _, _, _, _, _, _, _, _ => by simp [ltD] at h
  | .list _, .int _, _, h, _, _, _, _, _, _, _, _, _, _, _ => by simp [ltD] at h
  | .list _, .dict _, _, h, _, _, _, _, _, _, _, _, _, _, _ => by simp [ltD] at h
theorem lexAt_reads : ∀ (xs ys : List PyData) (r : Bool), ltL xs ys = some r → ∀ (A : Around) (s : Shared) (vs ws : List Value) (as bs : List Addr), ReadsAll s.heap vs xs as → ReadsAll s.heap ws ys bs →
    PyData.canLayAll0 xs = true → PyData.canLayAll0 ys = true → A.units + PyData.depthAll xs < cLine → LexAt A s (decide (vs.length < ws.length)) r (vs.zip ws)
  | [], [], r, h, A, s, _, _, _, _, ra, rb, _, _, _ => by
    cases ra; cases rb
    simp only [ltL, Option.some.injEq] at h
    show r = _
    simp [← h]
  | [], _ :: _, r, h, A, s, _, _, _, _, ra, rb, _, _, _ => by
    cases ra; cases rb
    simp only [ltL, Option.some.injEq] at h
    show r = _
    simp [← h]
  | _ :: _, [], r, h, A, s, _, _, _, _, ra, rb, _, _, _ => by
    cases ra; cases rb
    simp only [ltL, Option.some.injEq] at h
    show r = _
    simp [← h]
  | x :: xs, y :: ys, r, h, A, s, _, _, _, _, ra, rb, ha, hb, hu => by
    have ha' : x.canLay0 = true ∧ PyData.canLayAll0 xs = true := by simpa [PyData.canLayAll0] using ha
    have hb' : y.canLay0 = true ∧ PyData.canLayAll0 ys = true := by simpa [PyData.canLayAll0] using hb
    simp only [PyData.depthAll] at hu
    have hu1 := Nat.le_max_left x.depth (PyData.depthAll xs)
    have hu2 := Nat.le_max_right x.depth (PyData.depthAll xs)
    cases ra with
    | @cons v vs _ _ as₁ as₂ r1 rs =>
      cases rb with
      | @cons v' vs' _ _ bs₁ bs₂ r1' rs' =>
        rw [ltL] at h
        have hm := Nat.min_le_left x.depth y.depth
        refine ⟨PyData.eqv x y, eqAt_reads x y A s v v' as₁ bs₁ r1 r1' ha'.1 hb'.1 (by omega), ?_⟩
        split at h
        · rename_i hq
          rw [if_pos hq]
          have q := lexAt_reads xs ys r h A s vs vs' _ _ rs rs' ha'.2 hb'.2 (by omega)
          have e : decide ((v :: vs).length < (v' :: vs').length) = decide (vs.length < vs'.length) := by simp
          rw [e]
          exact q
        · rename_i hq
          rw [if_neg hq]
          exact ltAt_reads x y r h A s v v' _ _ r1 r1' ha'.1 hb'.1 (by omega)
end
end Mine

namespace Mine
open PySem PySem.W PyProof.Rows PySem.Calls

noncomputable def kspec {α : Type} (n : Nat) (ask : Nat → Nat → Bool) : KasT α → (α → Prop) → Prop
  | .ret a, P => P a
  | .ask i j k, P => i < n ∧ j < n ∧ kspec n ask (k (ask i j)) P
theorem kspec_ask {α : Type} {n : Nat} {ask : Nat → Nat → Bool} {i j : Nat} {k : Bool → KasT α} {P : α → Prop} (hi : i < n) (hj : j < n) (h1 : ask i j = true → kspec n ask (k true) P) (h2 : ask i j = false → kspec n ask (k false) P) :
    kspec n ask (.ask i j k) P := ⟨hi, hj, by cases q : ask i j with | true => exact h1 q | false => exact h2 q⟩
theorem kspec_bind {α β : Type} {n : Nat} {ask : Nat → Nat → Bool} {f : α → KasT β} {P : β → Prop} : ∀ (t : KasT α), kspec n ask t (fun a => kspec n ask (f a) P) → kspec n ask (t.bind f) P
  | .ret _, h => h
  | .ask i j k, ⟨h1, h2, h3⟩ => ⟨h1, h2, kspec_bind _ h3⟩
theorem kspec_mono {α : Type} {n : Nat} {ask : Nat → Nat → Bool} {P P' : α → Prop} (hp : ∀ a, P a → P' a) : ∀ (t : KasT α), kspec n ask t P → kspec n ask t P'
  | .ret _, h => hp _ h
  | .ask i j k, ⟨h1, h2, h3⟩ => ⟨h1, h2, kspec_mono hp _ h3⟩
theorem kspec_wp {α : Type} {n : Nat} {ask : Nat → Nat → Bool} {P : α → Prop} {cmp : Nat → Nat → (Bool → Shared → Prop) → Shared → Prop} {Q : α → Shared → Prop} {s : Shared}
    (hc : ∀ i j C, i < n → j < n → C (ask i j) s → cmp i j C s) (hq : ∀ a, P a → Q a s) : ∀ (t : KasT α), kspec n ask t P → t.kasWp cmp Q s
  | .ret _, h => hq _ h
  | .ask i j k, ⟨h1, h2, h3⟩ => hc i j _ h1 h2 (kspec_wp hc hq _ h3)

section
variable {n : Nat} {ask : Nat → Nat → Bool}
noncomputable def kle (ask : Nat → Nat → Bool) (i j : Nat) : Prop := ask j i = false
structure KOrd (n : Nat) (ask : Nat → Nat → Bool) : Prop where
  asym : ∀ i j, i < n → j < n → ask i j = true → ask j i = false
  tr : ∀ i j k, i < n → j < n → k < n → kle ask i j → kle ask j k → kle ask i k
  rf : ∀ i, i < n → kle ask i i
noncomputable def at' (p : Array Nat) (i : Nat) : Nat := p.getD i 0
structure PermN (n : Nat) (p : Array Nat) : Prop where
  perm : p.Perm (List.range n).toArray
theorem PermN.size {p : Array Nat} (h : PermN n p) : p.size = n := by have := h.perm.size_eq; simpa using this
theorem PermN.lt {p : Array Nat} (h : PermN n p) {i : Nat} (hi : i < n) : at' p i < n := by
  have hs : i < p.size := by rw [h.size]; exact hi
  have e : at' p i = p[i] := by simp [at', Array.getD, hs]
  rw [e]
  have := (Array.perm_iff_toList_perm.mp h.perm).mem_iff (a := p[i])
  simp at this
  exact this
theorem getD_of {p q : Array Nat} {i j : Nat} (h : p[i]? = q[j]?) : at' p i = at' q j := by
  simp only [at', Array.getD_eq_getD_getElem?, h]
noncomputable def SortedUp (ask : Nat → Nat → Bool) (p : Array Nat) (m : Nat) : Prop := ∀ i j, i ≤ j → j < m → kle ask (at' p i) (at' p j)
noncomputable def NonInc (ask : Nat → Nat → Bool) (p : Array Nat) (m : Nat) : Prop := ∀ i j, i ≤ j → j < m → kle ask (at' p j) (at' p i)
noncomputable def EqBlock (ask : Nat → Nat → Bool) (p : Array Nat) (a m : Nat) : Prop := ∀ i j, a ≤ i → i < m → a ≤ j → j < m → kle ask (at' p i) (at' p j)

theorem SortedUp.snoc (O : KOrd n ask) {p : Array Nat} (hp : PermN n p) {m : Nat} (hm : m < n) (h : SortedUp ask p m) (hl : m = 0 ∨ kle ask (at' p (m - 1)) (at' p m)) : SortedUp ask p (m + 1) := by
  intro i j hij hj
  rcases Nat.lt_or_ge j m with h1 | h1
  · exact h i j hij h1
  · have : j = m := by (first | lia | omega)
    subst this
    rcases Nat.lt_or_ge i j with h2 | h2
    · rcases hl with hl | hl
      · (first | lia | omega)
      · exact O.tr _ _ _ (hp.lt (by (first | lia | omega))) (hp.lt (by (first | lia | omega))) (hp.lt (by (first | lia | omega))) (h i (j - 1) (by (first | lia | omega)) (by (first | lia | omega))) hl
    · have : i = j := by (first | lia | omega)
      subst this
      exact O.rf _ (hp.lt hm)
theorem NonInc.snoc (O : KOrd n ask) {p : Array Nat} (hp : PermN n p) {m : Nat} (hm : m < n) (h : NonInc ask p m) (hl : m = 0 ∨ kle ask (at' p m) (at' p (m - 1))) : NonInc ask p (m + 1) := by
  intro i j hij hj
  rcases Nat.lt_or_ge j m with h1 | h1
  · exact h i j hij h1
  · have : j = m := by (first | lia | omega)
    subst this
    rcases Nat.lt_or_ge i j with h2 | h2
    · rcases hl with hl | hl
      · (first | lia | omega)
      · exact O.tr _ _ _ (hp.lt (by (first | lia | omega))) (hp.lt (by (first | lia | omega))) (hp.lt (by (first | lia | omega))) hl (h i (j - 1) (by (first | lia | omega)) (by (first | lia | omega)))
    · have : i = j := by (first | lia | omega)
      subst this
      exact O.rf _ (hp.lt hm)

theorem PermN.rev {p : Array Nat} (h : PermN n p) (i j : Nat) : PermN n (kas_rev p i j) := ⟨(mirror_perm _ _ _ _).trans h.perm⟩
theorem PermN.bub {p : Array Nat} (h : PermN n p) (i j : Nat) : PermN n (bubble p i j) := ⟨(bubble_perm _ _ _).trans h.perm⟩
theorem rev_at {p : Array Nat} {a b : Nat} (hb : b ≤ p.size) (k : Nat) : at' (kas_rev p a b) k = if a ≤ k ∧ k < b then at' p (a + b - 1 - k) else at' p k := by
  split
  · rename_i h
    refine getD_of ?_
    show (mirror p a b ((b - a) / 2))[k]? = _
    rw [getElem?_mirror_all hb, if_pos h]
  · rename_i h
    refine getD_of ?_
    show (mirror p a b ((b - a) / 2))[k]? = _
    rw [getElem?_mirror_all hb, if_neg h]

/-- reversing a block of equals *)-/
theorem NonInc.revBlock {p : Array Nat} {a b : Nat} (hb : b ≤ p.size) (h : NonInc ask p b) (e : EqBlock ask p a b) : NonInc ask (kas_rev p a b) b := by
  intro i j hij hj
  rw [rev_at hb, rev_at hb]
  by_cases hi : a ≤ i
  · rw [if_pos ⟨by (first | lia | omega), hj⟩, if_pos ⟨hi, by (first | lia | omega)⟩]
    exact e _ _ (by (first | lia | omega)) (by (first | lia | omega)) (by (first | lia | omega)) (by (first | lia | omega))
  · by_cases hj' : a ≤ j
    · rw [if_pos ⟨hj', hj⟩, if_neg (by (first | lia | omega))]
      exact h _ _ (by (first | lia | omega)) (by (first | lia | omega))
    · rw [if_neg (by (first | lia | omega)), if_neg (by (first | lia | omega))]
      exact h _ _ hij hj
theorem NonInc.revAll {p : Array Nat} {b : Nat} (hb : b ≤ p.size) (h : NonInc ask p b) : SortedUp ask (kas_rev p 0 b) b := by
  intro i j hij hj
  rw [rev_at hb, rev_at hb, if_pos ⟨by (first | lia | omega), by (first | lia | omega)⟩, if_pos ⟨by (first | lia | omega), by (first | lia | omega)⟩]
  exact h _ _ (by (first | lia | omega)) (by (first | lia | omega))

theorem asc_spec (O : KOrd n ask) {p : Array Nat} (hp : PermN n p) : ∀ (f m : Nat), 1 ≤ m → m + f ≤ n → SortedUp ask p m →
    kspec n ask (kas_asc p f m) (fun r => m ≤ r ∧ r ≤ m + f ∧ SortedUp ask p r ∧ (r < m + f → ask (at' p r) (at' p (r - 1)) = true))
  | 0, m, _, _, h => ⟨Nat.le_refl _, Nat.le_refl _, h, fun h => absurd h (Nat.lt_irrefl _)⟩
  | f + 1, m, h1, h2, h => by
    refine kspec_ask (hp.lt (by (first | lia | omega))) (hp.lt (by (first | lia | omega))) (fun q => ?_) fun q => ?_
    · simp only [if_true]
      exact ⟨Nat.le_refl _, by (first | lia | omega), h, fun _ => q⟩
    · simp only [Bool.false_eq_true, if_false]
      refine kspec_mono ?_ _ (asc_spec O hp f (m + 1) (by (first | lia | omega)) (by (first | lia | omega)) (h.snoc O hp (by (first | lia | omega)) (.inr q)))
      rintro r ⟨a, b, c, d⟩
      exact ⟨by (first | lia | omega), by (first | lia | omega), c, fun hr => d (by (first | lia | omega))⟩

theorem desc_spec (O : KOrd n ask) : ∀ (f : Nat) (p : Array Nat) (m q : Nat), PermN n p → 1 ≤ m → q + 1 ≤ m → m + f ≤ n → NonInc ask p m → EqBlock ask p (m - (q + 1)) m →
    kspec n ask (kas_desc f p m q) (fun r => PermN n r.1 ∧ m ≤ r.2.1 ∧ r.2.1 ≤ n ∧ r.2.2 + 1 ≤ r.2.1 ∧ NonInc ask r.1 r.2.1 ∧ EqBlock ask r.1 (r.2.1 - (r.2.2 + 1)) r.2.1)
  | 0, p, m, q, hp, h1, hq, h2, h, e => ⟨hp, Nat.le_refl _, h2, hq, h, e⟩
  | f + 1, p, m, q, hp, h1, hq, h2, h, e => by
    refine kspec_ask (hp.lt (by (first | lia | omega))) (hp.lt (by (first | lia | omega))) (fun c => ?_) fun c => ?_
    · simp only [if_true]
      have one : ∀ p' : Array Nat, PermN n p' → EqBlock ask p' (m + 1 - (0 + 1)) (m + 1) := by
        intro p' hp' i j a b c d
        have e1 : i = m := by (first | lia | omega)
        have e2 : j = m := by (first | lia | omega)
        subst e1; subst e2
        exact O.rf _ (hp'.lt (by (first | lia | omega)))
      have cle : kle ask (at' p m) (at' p (m - 1)) := O.asym _ _ (hp.lt (by (first | lia | omega))) (hp.lt (by (first | lia | omega))) c
      by_cases hq0 : q > 0
      · rw [if_pos hq0]
        have hb : m ≤ p.size := by rw [hp.size]; (first | lia | omega)
        have hp' := hp.rev (m - (q + 1)) m
        refine kspec_mono ?_ _ (desc_spec O f _ (m + 1) 0 hp' (by (first | lia | omega)) (by (first | lia | omega)) (by (first | lia | omega)) ?_ (one _ hp'))
        · rintro r ⟨a, b, c⟩; exact ⟨a, by (first | lia | omega), c⟩
        · refine (h.revBlock hb e).snoc O hp' (by (first | lia | omega)) (.inr ?_)
          rw [rev_at hb, rev_at hb, if_neg (by (first | lia | omega)), if_pos ⟨by (first | lia | omega), by (first | lia | omega)⟩]
          refine O.tr _ _ _ (hp.lt (by (first | lia | omega))) (hp.lt (by (first | lia | omega))) (hp.lt (by (first | lia | omega))) cle (e _ _ (by (first | lia | omega)) (by (first | lia | omega)) (by (first | lia | omega)) (by (first | lia | omega)))
      · rw [if_neg hq0]
        refine kspec_mono ?_ _ (desc_spec O f _ (m + 1) 0 hp (by (first | lia | omega)) (by (first | lia | omega)) (by (first | lia | omega)) (h.snoc O hp (by (first | lia | omega)) (.inr cle)) (one _ hp))
        rintro r ⟨a, b, c⟩; exact ⟨a, by (first | lia | omega), c⟩
    · simp only [Bool.false_eq_true, if_false]
      refine kspec_ask (hp.lt (by (first | lia | omega))) (hp.lt (by (first | lia | omega))) (fun c2 => ?_) fun c2 => ?_
      · simp only [if_true]; exact ⟨hp, Nat.le_refl _, by show m ≤ n; (first | lia | omega), hq, h, e⟩
      · simp only [Bool.false_eq_true, if_false]
        refine kspec_mono ?_ _ (desc_spec O f _ (m + 1) (q + 1) hp (by (first | lia | omega)) (by (first | lia | omega)) (by (first | lia | omega)) (h.snoc O hp (by (first | lia | omega)) (.inr c2)) ?_)
        · rintro r ⟨a, b, c⟩; exact ⟨a, by (first | lia | omega), c⟩
        · have lo : ∀ i, m - (q + 1) ≤ i → i < m + 1 → kle ask (at' p i) (at' p m) ∧ kle ask (at' p m) (at' p i) := by
            intro i hi1 hi2
            rcases Nat.lt_or_ge i m with hi | hi
            · exact ⟨O.tr _ _ _ (hp.lt (by (first | lia | omega))) (hp.lt (by (first | lia | omega))) (hp.lt (by (first | lia | omega))) (e i (m - 1) hi1 hi (by (first | lia | omega)) (by (first | lia | omega))) c,
                O.tr _ _ _ (hp.lt (by (first | lia | omega))) (hp.lt (by (first | lia | omega))) (hp.lt (by (first | lia | omega))) c2 (e (m - 1) i (by (first | lia | omega)) (by (first | lia | omega)) hi1 hi)⟩
            · have : i = m := by (first | lia | omega)
              subst this
              exact ⟨O.rf _ (hp.lt (by (first | lia | omega))), O.rf _ (hp.lt (by (first | lia | omega)))⟩
          intro i j hi1 hi2 hj1 hj2
          exact O.tr _ _ _ (hp.lt (by (first | lia | omega))) (hp.lt (by (first | lia | omega))) (hp.lt (by (first | lia | omega))) (lo i (by (first | lia | omega)) hi2).1 (lo j (by (first | lia | omega)) hj2).2

theorem tail3_spec (O : KOrd n ask) {p : Array Nat} (hp : PermN n p) {m : Nat} (h1 : 1 ≤ m) (hm : m ≤ n) (h : NonInc ask p m) :
    kspec n ask (kas_tail3 m n p) (fun r => PermN n r.2 ∧ 1 ≤ r.1 ∧ r.1 ≤ n ∧ SortedUp ask r.2 r.1) := by
  have hb : m ≤ p.size := by rw [hp.size]; exact hm
  unfold kas_tail3
  refine kspec_bind _ (kspec_mono ?_ _ (asc_spec O (hp.rev 0 m) (n - m) m h1 (by (first | lia | omega)) (h.revAll hb)))
  rintro r ⟨a, b, c, -⟩
  exact ⟨hp.rev 0 m, by show 1 ≤ r; (first | lia | omega), by show r ≤ n; (first | lia | omega), c⟩
theorem descPart_spec (O : KOrd n ask) {p : Array Nat} (hp : PermN n p) {m : Nat} (h1 : 1 ≤ m) (hm : m < n) (h : NonInc ask p (m + 1)) :
    kspec n ask (kas_descPart m n p) (fun r => PermN n r.2 ∧ 1 ≤ r.1 ∧ r.1 ≤ n ∧ SortedUp ask r.2 r.1) := by
  unfold kas_descPart
  refine kspec_bind _ (kspec_mono ?_ _ (desc_spec O (n - (m + 1)) p (m + 1) 0 hp (by (first | lia | omega)) (by (first | lia | omega)) (by (first | lia | omega)) h ?_))
  · rintro ⟨p', k, q⟩ ⟨a, b, c, d, e, f⟩
    dsimp only at a b c d e f ⊢
    split
    · exact tail3_spec O (a.rev _ _) (by (first | lia | omega)) c (e.revBlock (by rw [a.size]; exact c) f)
    · exact tail3_spec O a (by (first | lia | omega)) c e
  · intro i j a b c d
    have e1 : i = m := by (first | lia | omega)
    have e2 : j = m := by (first | lia | omega)
    subst e1; subst e2
    exact O.rf _ (hp.lt hm)
theorem count_spec (O : KOrd n ask) {p : Array Nat} (hp : PermN n p) (h1 : 1 ≤ n) :
    kspec n ask (kas_count n p) (fun r => PermN n r.2 ∧ 1 ≤ r.1 ∧ r.1 ≤ n ∧ SortedUp ask r.2 r.1) := by
  have s1 : SortedUp ask p 1 := by
    intro i j a b
    have e1 : i = 0 := by (first | lia | omega)
    have e2 : j = 0 := by (first | lia | omega)
    subst e1; subst e2
    exact O.rf _ (hp.lt (by (first | lia | omega)))
  unfold kas_count
  refine kspec_bind _ (kspec_mono ?_ _ (asc_spec O hp (n - 1) 1 (Nat.le_refl _) (by (first | lia | omega)) s1))
  rintro m ⟨a, b, c, d⟩
  by_cases he : (m == n) = true
  · rw [if_pos he]
    exact ⟨hp, a, by show m ≤ n; (first | lia | omega), c⟩
  · rw [if_neg he]
    have hmn : m < n := by
      have : m ≠ n := by simpa using he
      (first | lia | omega)
    have hd := d (by (first | lia | omega))
    have dle : kle ask (at' p m) (at' p (m - 1)) := O.asym _ _ (hp.lt hmn) (hp.lt (by (first | lia | omega))) hd
    split
    · rename_i hm1
      refine kspec_ask (hp.lt (by (first | lia | omega))) (hp.lt (by (first | lia | omega))) (fun q => ?_) fun q => ?_
      · simp only [if_true]; exact ⟨hp, a, by show m ≤ n; (first | lia | omega), c⟩
      · simp only [Bool.false_eq_true, if_false]
        have hb : m ≤ p.size := by rw [hp.size]; (first | lia | omega)
        -- all of the run are equal
        have eq : EqBlock ask p 0 m := by
          intro i j _ hi _ hj
          refine O.tr _ (at' p (m - 1)) _ (hp.lt (by (first | lia | omega))) (hp.lt (by (first | lia | omega))) (hp.lt (by (first | lia | omega))) (c _ _ (by (first | lia | omega)) (by (first | lia | omega))) ?_
          exact O.tr _ (at' p 0) _ (hp.lt (by (first | lia | omega))) (hp.lt (by (first | lia | omega))) (hp.lt (by (first | lia | omega))) q (c _ _ (by (first | lia | omega)) (by (first | lia | omega)))
        have hp' := hp.rev 0 m
        refine descPart_spec O hp' a hmn ?_
        have ni : NonInc ask p m := fun i j hij hj => eq _ _ (by (first | lia | omega)) hj (by (first | lia | omega)) (by (first | lia | omega))
        refine (ni.revBlock hb eq).snoc O hp' hmn (.inr ?_)
        rw [rev_at hb, rev_at hb, if_neg (by (first | lia | omega)), if_pos ⟨by (first | lia | omega), by (first | lia | omega)⟩]
        exact O.tr _ _ _ (hp.lt (by (first | lia | omega))) (hp.lt (by (first | lia | omega))) (hp.lt (by (first | lia | omega))) dle (eq _ _ (by (first | lia | omega)) (by (first | lia | omega)) (by (first | lia | omega)) (by (first | lia | omega)))
    · have hm1 : m = 1 := by (first | lia | omega)
      subst hm1
      refine descPart_spec O hp a hmn ?_
      have ni : NonInc ask p 1 := fun i j hij hj => by
        have e1 : i = 0 := by (first | lia | omega)
        have e2 : j = 0 := by (first | lia | omega)
        subst e1; subst e2
        exact O.rf _ (hp.lt (by (first | lia | omega)))
      exact ni.snoc O hp hmn (.inr dle)

theorem place_spec (O : KOrd n ask) {p : Array Nat} (hp : PermN n p) {k : Nat} (hk : k < n) (hs : SortedUp ask p k) : ∀ (f l r : Nat), l ≤ r → r ≤ k → r - l ≤ f →
    (∀ i, i < l → kle ask (at' p i) (at' p k)) → (∀ i, r ≤ i → i < k → kle ask (at' p k) (at' p i)) →
    kspec n ask (kas_place p k f l r) (fun l' => l' ≤ k ∧ (∀ i, i < l' → kle ask (at' p i) (at' p k)) ∧ (∀ i, l' ≤ i → i < k → kle ask (at' p k) (at' p i)))
  | 0, l, r, h1, h2, h3, a, b => ⟨by (first | lia | omega), a, fun i hi => b i (by (first | lia | omega))⟩
  | f + 1, l, r, h1, h2, h3, a, b => by
    unfold kas_place
    split
    · exact ⟨by (first | lia | omega), a, fun i hi => b i (by (first | lia | omega))⟩
    · have hmid : (l + r) / 2 < r := by (first | lia | omega)
      have hmid2 : l ≤ (l + r) / 2 := by (first | lia | omega)
      refine kspec_ask (hp.lt hk) (hp.lt (by (first | lia | omega))) (fun c => ?_) fun c => ?_
      · simp only [if_true]
        refine place_spec O hp hk hs f l _ hmid2 (by (first | lia | omega)) (by (first | lia | omega)) a fun i hi1 hi2 => ?_
        exact O.tr _ _ _ (hp.lt hk) (hp.lt (by (first | lia | omega))) (hp.lt (by (first | lia | omega))) (O.asym _ _ (hp.lt hk) (hp.lt (by (first | lia | omega))) c) (hs _ _ hi1 hi2)
      · simp only [Bool.false_eq_true, if_false]
        refine place_spec O hp hk hs f _ r (by (first | lia | omega)) h2 (by (first | lia | omega)) (fun i hi => ?_) b
        exact O.tr _ _ _ (hp.lt (by (first | lia | omega))) (hp.lt (by (first | lia | omega))) (hp.lt hk) (hs i ((l + r) / 2) (by (first | lia | omega)) (by (first | lia | omega))) c
theorem bub_at {p : Array Nat} {k l : Nat} (hk : k < p.size) (hl : l ≤ k) (i : Nat) : at' (bubble p k (k - l)) i = if i = l then at' p k else if l < i ∧ i ≤ k then at' p (i - 1) else at' p i := by
  have h := getElem?_bubble hk (k - l) (by (first | lia | omega)) i
  have e : k - (k - l) = l := by (first | lia | omega)
  rw [e] at h
  split
  · rename_i hi; rw [if_pos hi] at h; exact getD_of h
  · rename_i hi
    rw [if_neg hi] at h
    split
    · rename_i hj; rw [if_pos hj] at h; exact getD_of h
    · rename_i hj; rw [if_neg hj] at h; exact getD_of h
theorem bin_spec (O : KOrd n ask) : ∀ (f : Nat) (p : Array Nat) (k : Nat), PermN n p → k + f = n → SortedUp ask p k →
    kspec n ask (kas_bin f p k) (fun r => PermN n r ∧ SortedUp ask r n)
  | 0, p, k, hp, h, hs => ⟨hp, by rw [← h]; exact hs⟩
  | f + 1, p, k, hp, h, hs => by
    have hk : k < n := by (first | lia | omega)
    refine kspec_bind _ (kspec_mono ?_ _ (place_spec O hp hk hs k 0 k (Nat.zero_le _) (Nat.le_refl _) (by (first | lia | omega)) (fun i hi => absurd hi (Nat.not_lt_zero _)) (fun i a b => absurd b (by (first | lia | omega)))))
    rintro l ⟨hl, a, b⟩
    have hz : k < p.size := by rw [hp.size]; exact hk
    refine bin_spec O f _ (k + 1) (hp.bub _ _) (by (first | lia | omega)) ?_
    intro i j hij hj
    rw [bub_at hz hl, bub_at hz hl]
    by_cases hi : i = l
    · rw [if_pos hi]
      by_cases hj' : j = l
      · rw [if_pos hj']; exact O.rf _ (hp.lt hk)
      · rw [if_neg hj', if_pos ⟨by (first | lia | omega), by (first | lia | omega)⟩]
        exact b _ (by (first | lia | omega)) (by (first | lia | omega))
    · rw [if_neg hi]
      by_cases hj' : j = l
      · rw [if_pos hj', if_neg (by (first | lia | omega))]
        exact a _ (by (first | lia | omega))
      · rw [if_neg hj']
        by_cases hi2 : l < i ∧ i ≤ k
        · rw [if_pos hi2, if_pos ⟨by (first | lia | omega), by (first | lia | omega)⟩]
          exact hs _ _ (by (first | lia | omega)) (by (first | lia | omega))
        · rw [if_neg hi2]
          by_cases hj2 : l < j ∧ j ≤ k
          · rw [if_pos hj2]
            exact hs _ _ (by (first | lia | omega)) (by (first | lia | omega))
          · rw [if_neg hj2]
            exact hs _ _ hij (by (first | lia | omega))
theorem sort_spec (O : KOrd n ask) (h1 : 1 ≤ n) : kspec n ask (kas_sort n) (fun r => PermN n r ∧ SortedUp ask r n) := by
  unfold kas_sort
  refine kspec_bind _ (kspec_mono ?_ _ (count_spec O ⟨Array.Perm.refl _⟩ h1))
  rintro ⟨m, p⟩ ⟨a, b, c, d⟩
  dsimp only at a b c d ⊢
  split
  · have e : max m 1 = m := by (first | lia | omega)
    rw [e]
    exact bin_spec O _ p m a (by (first | lia | omega)) d
  · have : m = n := by (first | lia | omega)
    subst this
    exact ⟨a, d⟩
end
end Mine

namespace Mine
open PySem PySem.W PyProof.Rows PySem.Calls PySem.SeqAt

/-- what the sort asks, answered in every heap that keeps all but a *)-/
noncomputable def Asks (prog : Program) (w : World) (A : Around) (vs : List Value) (ask : Nat → Nat → Bool) (s : Shared) : Prop :=
  ∃ κ, (∀ (Q : SortKind → Shared → Prop) (E : Value → Shared → Prop), Q κ s → wpAny (model prog w) A (keyKind' vs.toArray) Q E s) ∧
    ∀ i j C, i < vs.length → j < vs.length → C (ask i j) s → kas_ask prog w A κ vs i j C s
section
variable {prog : Program} {w : World} {A : Around} {E : Value → Shared → Prop} {s : Shared} {a : Addr} {vs : List Value} {n : Nat} {ask : Nat → Nat → Bool}
theorem list_sort_raw {P : PySem.Fin → Shared → Prop} {R : Array Nat → Prop} (ho : s.heap.get? a = some (seqObj "list" vs.toArray n)) (h2 : 2 ≤ vs.length) (h64 : vs.length < 64)
    (hsp : kspec vs.length ask (kas_sort vs.length) R)
    (hask : ∀ h', (∀ b o, b ≠ a → s.heap.get? b = some o → h'.get? b = some o) → Asks prog w A vs ask { s with heap := h' })
    (h : ∀ p h' c, R p → (∀ b o, b ≠ a → s.heap.get? b = some o → h'.get? b = some o) → h'.get? a = some (seqObj "list" (List.toArray (p.toList.map fun i => vs.getD i Value.none)) c) → P (.done (.ret .none)) { s with heap := h' }) :
    wpAny (model prog w) A (Builtin.«list.sort» ⟨[.ref a], []⟩) P E s := by
  have s1 := Heap.SameBut.update s.heap a (Obj.mapSeq fun _ => (#[] : Array Value))
  obtain ⟨e1, ho1⟩ : ∃ e1, (s.heap.update a (Obj.mapSeq fun _ => (#[] : Array Value))).get? a = some (seqObj "list" #[] e1) := ⟨_, get?_update_seq ho fun _ => #[]⟩
  have k1 : ∀ b o, b ≠ a → s.heap.get? b = some o → (((s.heap.update a (Obj.mapSeq fun _ => (#[] : Array Value))).push (seqObj "tuple" vs.toArray 0)).push (seqObj "list" #[] 0)).get? b = some o :=
    fun b o hb e => Heap.get?_push_of_some _ (Heap.get?_push_of_some _ (s1.extBut b o hb e))
  have a1 : (((s.heap.update a (Obj.mapSeq fun _ => (#[] : Array Value))).push (seqObj "tuple" vs.toArray 0)).push (seqObj "list" #[] 0)).get? a = some (seqObj "list" #[] e1) :=
    Heap.get?_push_of_some _ (Heap.get?_push_of_some _ ho1)
  rw [list_sort_plain]
  refine wpAny_bind (listItems_at ho rfl ?_)
  refine wpAny_bind (listUpdate_at ho rfl ?_ (by rw [List.size_toArray, sizeLine_eq]; (first | lia | omega)) (Nat.zero_le _))
  refine wpAny_bind (seqEpoch_at ho1 rfl ?_)
  refine wpAny_bind (wpAny_newTuple ?_ (by show vs.length ≤ _; rw [sizeLine_eq]; (first | lia | omega)))
  refine wpAny_bind (wpAny_newList ?_ (Nat.zero_le _))
  refine wpAny_holding ?_
  show wpAny (model prog w) A _ P E { s with heap := ((s.heap.update a (Obj.mapSeq fun _ => (#[] : Array Value))).push (seqObj "tuple" vs.toArray 0)).push (seqObj "list" #[] 0) }
  generalize ((s.heap.update a (Obj.mapSeq fun _ => (#[] : Array Value))).push (seqObj "tuple" vs.toArray 0)).push (seqObj "list" #[] 0) = h1 at k1 a1 ⊢
  dsimp only
  have hn2 : ¬ vs.toArray.size < 2 := by rw [List.size_toArray]; (first | lia | omega)
  rw [if_neg hn2, if_neg hn2]
  obtain ⟨κ, hk, hc⟩ := hask h1 k1
  refine wpAny_bind (hk _ _ ?_)
  refine wpAny_bind (wpAny_mono (kat_run (κ := κ) (vs := vs) (ks := vs) (Q := fun st' s' => s' = { s with heap := h1 } ∧ ∃ p : Array Nat, p.size = vs.length ∧ arrOf st' = p.map (kas_item (vs.toArray.zip vs.toArray)) ∧ failedOf st' = none ∧ R p)
    (G := fun p s' => s' = { s with heap := h1 } ∧ R p) rfl h2 h64 (fun p' st' s' b1 b2 b3 b4 => ⟨b4.1, p', b1, b2, b3, b4.2⟩) ?_) ?_ fun _ _ e => e)
  · exact kspec_wp hc (fun p hp => ⟨rfl, hp⟩) _ hsp
  rintro ⟨⟨⟩, st'⟩ s' ⟨rfl, p, hp, har, hf, hR⟩
  dsimp only
  have hout := kat_snds rfl har
  have hsz : (List.toArray (p.toList.map fun i => vs.getD i Value.none)).size = vs.length := by rw [List.size_toArray, List.length_map, Array.length_toList, hp]
  rw [hout]
  have s2 := Heap.SameBut.update h1 a (Obj.mapSeq fun _ => List.toArray (p.toList.map fun i => vs.getD i Value.none))
  obtain ⟨c2, hc2⟩ : ∃ c2, (h1.update a (Obj.mapSeq fun _ => List.toArray (p.toList.map fun i => vs.getD i Value.none))).get? a = some (seqObj "list" (List.toArray (p.toList.map fun i => vs.getD i Value.none)) c2) :=
    ⟨_, get?_update_seq a1 fun _ => List.toArray (p.toList.map fun i => vs.getD i Value.none)⟩
  refine wpAny_bind (seqEpoch_at a1 rfl ?_)
  refine wpAny_bind (listUpdate_at a1 rfl ?_ (Nat.zero_le _) (Nat.le_trans (Nat.le_of_eq hsz) (by rw [sizeLine_eq]; (first | lia | omega))))
  rw [hf]
  simp only [bne_self_eq_false, Bool.false_eq_true, if_false]
  exact wpAny_pure (h p _ c2 hR (fun b o hb e => s2.extBut b o hb (k1 b o hb e)) hc2)

theorem sorted_raw {l : Addr} {Q : Value → Shared → Prop} {R : Array Nat → Prop} (hl : s.heap.IsList l vs.toArray) (h2 : 2 ≤ vs.length) (h64 : vs.length < 64)
    (hsp : kspec vs.length ask (kas_sort vs.length) R)
    (hask : ∀ h', (∀ b o, s.heap.get? b = some o → h'.get? b = some o) → Asks prog w A.in1.in1 vs ask { s with heap := h' })
    (h : ∀ p D h' c, R p → (∀ b o, s.heap.get? b = some o → h'.get? b = some o) → s.heap.get? D = none → h'.get? D = some (seqObj "list" (List.toArray (p.toList.map fun i => vs.getD i Value.none)) c) → Q (.ref D) { s with heap := h' }) :
    wpAny (model prog w) A (call (.builtin "sorted") [.ref l]) Q E s := by
  refine Calls.call_function_entry kind_sorted plain_sorted entry_sorted (args_sorted1 _) ?_
  unfold Builtin.«sorted»
  refine wpAny_bind (m := checkCount "sorted" 1 1 _) (wpAny_pure ?_)
  refine wpAny_bind (collect_list hl ?_ (by rw [sizeLine_eq]; (first | lia | omega)))
  refine wpAny_bind (wpAny_newList ?_ (by rw [sizeLine_eq]; (first | lia | omega)))
  have hsz : ((s.heap.push (seqObj "list" #[] 0)).update s.heap.objs.size (Obj.mapSeq (· ++ vs.toArray))).objs.size = s.heap.objs.size + 1 := by
    rw [Heap.size_update, size_push']
  have hoL : (((s.heap.push (seqObj "list" #[] 0)).update s.heap.objs.size (Obj.mapSeq (· ++ vs.toArray))).push (seqObj "list" vs.toArray 0)).get? (s.heap.objs.size + 1) = some (seqObj "list" vs.toArray 0) := by
    rw [← hsz]; exact Heap.get?_push_size _ rfl
  have keep : ∀ b o, s.heap.get? b = some o → (((s.heap.push (seqObj "list" #[] 0)).update s.heap.objs.size (Obj.mapSeq (· ++ vs.toArray))).push (seqObj "list" vs.toArray 0)).get? b = some o := fun b o q => by
    have hlt : b < s.heap.objs.size := Heap.lt_size q
    rw [Heap.get?_push_ne _ _ _ (by rw [hsz]; exact Nat.ne_of_lt (Nat.lt_succ_of_lt hlt)), Heap.get?_update_ne _ _ _ _ (Nat.ne_of_lt hlt), Heap.get?_push_ne _ _ _ (Nat.ne_of_lt hlt)]
    exact q
  have fr : s.heap.get? (s.heap.objs.size + 1) = none := Heap.get?_none_of_le (Nat.le_succ _)
  have ne : ∀ b o, s.heap.get? b = some o → b ≠ s.heap.objs.size + 1 := fun b o e => Nat.ne_of_lt (Nat.lt_succ_of_lt (Heap.lt_size e))
  show wpAny _ _ _ _ _ { s with heap := ((s.heap.push (seqObj "list" #[] 0)).update s.heap.objs.size (Obj.mapSeq (· ++ vs.toArray))).push (seqObj "list" vs.toArray 0) }
  rw [hsz]
  generalize ((s.heap.push (seqObj "list" #[] 0)).update s.heap.objs.size (Obj.mapSeq (· ++ vs.toArray))).push (seqObj "list" vs.toArray 0) = h1 at hoL keep ⊢
  refine wpAny_bind (wpAny_holding (wpAny_call_entry slot_list_sort ⟨_, hoL, rfl⟩ entry_list_sort ?body (args_list_sort _)))
  case body =>
    refine list_sort_raw (s := { s with heap := h1 }) hoL h2 h64 hsp (fun h' k' => hask h' fun b o e => k' b o (ne b o e) (keep b o e)) fun p h' c hR k' hD => ?_
    exact ⟨_, rfl, wpAny_pure ⟨_, rfl, h p _ h' c hR (fun b o e => k' b o (ne b o e) (keep b o e)) fr hD⟩⟩
end
end Mine

namespace Mine
open PySem PySem.W PyProof.Rows PySem.Calls PySem.SeqAt

section
variable {P : PyData → Prop} (h0 : P .none) (h1 : ∀ b, P (.bool b)) (h2 : ∀ i, P (.int i)) (h3 : ∀ x, P (.str x))
  (h4 : ∀ xs, (∀ x ∈ xs, P x) → P (.tuple xs)) (h5 : ∀ xs, (∀ x ∈ xs, P x) → P (.list xs)) (h6 : ∀ kvs, P (.dict kvs))
include h0 h1 h2 h3 h4 h5 h6
mutual
theorem pyInd : ∀ d : PyData, P d
  | .none => h0
  | .bool b => h1 b
  | .int i => h2 i
  | .str x => h3 x
  | .tuple xs => h4 xs (pyIndL xs)
  | .list xs => h5 xs (pyIndL xs)
  | .dict kvs => h6 kvs
theorem pyIndL : ∀ xs : List PyData, ∀ x ∈ xs, P x
  | [], _, h => nomatch h
  | y :: ys, x, h => by
    rcases List.mem_cons.mp h with e | e
    · exact e ▸ pyInd y
    · exact pyIndL ys x e
end
end

theorem cps_inj {a b : Str} (h : a.cps.toList = b.cps.toList) : a = b := by
  cases a; cases b; simp only [Str.mk.injEq]; exact Array.toList_inj.mp h
theorem lst_tri {a b : List Nat} (h1 : ¬ a < b) (h2 : a ≠ b) : b < a := by
  rcases Classical.em (b < a) with h | h
  · exact h
  · exact absurd (List.le_antisymm (List.not_lt.mp h) (List.not_lt.mp h1)) h2

theorem cL_swap {xs : List PyData} (ih : ∀ x ∈ xs, ∀ y, cD y x = (cD x y).swap) : ∀ ys, cL ys xs = (cL xs ys).swap := by
  induction xs with
  | nil => intro ys; cases ys <;> rfl
  | cons x xs hi =>
    intro ys
    cases ys with
    | nil => rfl
    | cons y ys =>
      rw [cL, cL, ih x (.head _) y, hi (fun z hz => ih z (.tail _ hz)) ys, Ordering.swap_then]
theorem cD_swap (x : PyData) : ∀ y, cD y x = (cD x y).swap := by
  refine pyInd (P := fun x => ∀ y, cD y x = (cD x y).swap) ?_ ?_ ?_ ?_ ?_ ?_ ?_ x
  · intro y; cases y <;> rfl
  · intro b y; cases y <;> rfl
  · intro i y
    cases y with
    | int j => simp only [cD]; exact (Int.compare_swap i j).symm
    | _ => rfl
  · intro a y
    cases y with
    | str b =>
      simp only [cD]
      by_cases e : a = b
      · subst e; simp [List.lt_irrefl]
      · have e' : ¬ b = a := fun q => e q.symm
        by_cases l : a.cps.toList < b.cps.toList
        · have l' : ¬ b.cps.toList < a.cps.toList := List.lt_asymm l
          simp [e, e', l, l']
        · have l' := lst_tri l fun q => e (cps_inj q)
          simp [e, e', l, l']
    | _ => rfl
  · intro xs ih y
    cases y with
    | tuple ys => simp only [cD]; exact cL_swap ih ys
    | _ => rfl
  · intro xs ih y
    cases y with
    | list ys => simp only [cD]; exact cL_swap ih ys
    | _ => rfl
  · intro kvs y; cases y <;> rfl

theorem gdL_mem {xs : List PyData} (h : gdL xs = true) : ∀ x ∈ xs, gd x = true := by
  induction xs with
  | nil => intro x hx; cases hx
  | cons y ys ih =>
    rw [gdL, Bool.and_eq_true] at h
    intro x hx
    rcases List.mem_cons.mp hx with e | e
    · exact e ▸ h.1
    · exact ih h.2 x e
theorem cL_eq {xs : List PyData} (ih : ∀ x ∈ xs, ∀ y, gd x = true → gd y = true → cD x y = .eq → x = y) : ∀ ys, gdL xs = true → gdL ys = true → cL xs ys = .eq → xs = ys := by
  induction xs with
  | nil => intro ys _ _ h; cases ys with
    | nil => rfl
    | cons => cases h
  | cons x xs hi =>
    intro ys gx gy h
    cases ys with
    | nil => cases h
    | cons y ys =>
      rw [gdL, Bool.and_eq_true] at gx gy
      rw [cL, Ordering.then_eq_eq] at h
      rw [ih x (.head _) y gx.1 gy.1 h.1, hi (fun z hz => ih z (.tail _ hz)) ys gx.2 gy.2 h.2]
theorem cD_eq (x : PyData) : ∀ y, gd x = true → gd y = true → cD x y = .eq → x = y := by
  refine pyInd (P := fun x => ∀ y, gd x = true → gd y = true → cD x y = .eq → x = y) ?_ ?_ ?_ ?_ ?_ ?_ ?_ x
  · intro y g; cases g
  · intro b y g; cases g
  · intro i y _ g h
    cases y with
    | int j => simp only [cD] at h; rw [Int.compare_eq_eq.mp h]
    | none | bool _ | dict _ => cases g
    | _ => (exact absurd h (fun e => nomatch e))
  · intro a y _ g h
    cases y with
    | str b =>
      simp only [cD] at h
      split at h
      · cases h
      · split at h
        · rename_i e; rw [e]
        · cases h
    | none | bool _ | dict _ => cases g
    | _ => (exact absurd h (fun e => nomatch e))
  · intro xs ih y g g' h
    cases y with
    | tuple ys => rw [cL_eq ih ys (by simpa [gd] using g) (by simpa [gd] using g') (by simpa [cD] using h)]
    | none | bool _ | dict _ => cases g'
    | _ => (exact absurd h (fun e => nomatch e))
  · intro xs ih y g g' h
    cases y with
    | list ys => rw [cL_eq ih ys (by simpa [gd] using g) (by simpa [gd] using g') (by simpa [cD] using h)]
    | none | bool _ | dict _ => cases g'
    | _ => (exact absurd h (fun e => nomatch e))
  · intro kvs y g; cases g

theorem cL_refl {xs : List PyData} (ih : ∀ x ∈ xs, gd x = true → cD x x = .eq) (g : gdL xs = true) : cL xs xs = .eq := by
  induction xs with
  | nil => rfl
  | cons x xs hi =>
    rw [gdL, Bool.and_eq_true] at g
    rw [cL, ih x (.head _) g.1, hi (fun z hz => ih z (.tail _ hz)) g.2]; rfl
theorem cD_refl (x : PyData) : gd x = true → cD x x = .eq := by
  refine pyInd (P := fun x => gd x = true → cD x x = .eq) ?_ ?_ ?_ ?_ ?_ ?_ ?_ x
  · intro g; cases g
  · intro b g; cases g
  · intro i _; simp only [cD]; exact Int.compare_eq_eq.mpr rfl
  · intro a _; simp [cD, List.lt_irrefl]
  · intro xs ih g; simp only [cD]; exact cL_refl ih (by simpa [gd] using g)
  · intro xs ih g; simp only [cD]; exact cL_refl ih (by simpa [gd] using g)
  · intro kvs g; cases g

theorem cL_trans {xs : List PyData} (ih : ∀ x ∈ xs, ∀ y z, gd x = true → gd y = true → gd z = true → cD x y = .lt → cD y z = .lt → cD x z = .lt) :
    ∀ ys zs, gdL xs = true → gdL ys = true → gdL zs = true → cL xs ys = .lt → cL ys zs = .lt → cL xs zs = .lt := by
  induction xs with
  | nil =>
    intro ys zs _ _ _ h k
    cases ys with
    | nil => cases h
    | cons y ys => cases zs with
      | nil => cases k
      | cons => rfl
  | cons x xs hi =>
    intro ys zs gx gy gz h k
    cases ys with
    | nil => cases h
    | cons y ys => cases zs with
      | nil => cases k
      | cons z zs =>
        rw [gdL, Bool.and_eq_true] at gx gy gz
        rw [cL, Ordering.then_eq_lt] at h k ⊢
        rcases h with h | ⟨h, h'⟩
        · rcases k with k | ⟨k, k'⟩
          · exact .inl (ih x (.head _) y z gx.1 gy.1 gz.1 h k)
          · rw [← cD_eq y z gy.1 gz.1 k]; exact .inl h
        · have e := cD_eq x y gx.1 gy.1 h
          subst e
          rcases k with k | ⟨k, k'⟩
          · exact .inl k
          · exact .inr ⟨k, hi (fun z hz => ih z (.tail _ hz)) ys zs gx.2 gy.2 gz.2 h' k'⟩
theorem cD_trans (x : PyData) : ∀ y z, gd x = true → gd y = true → gd z = true → cD x y = .lt → cD y z = .lt → cD x z = .lt := by
  refine pyInd (P := fun x => ∀ y z, gd x = true → gd y = true → gd z = true → cD x y = .lt → cD y z = .lt → cD x z = .lt) ?_ ?_ ?_ ?_ ?_ ?_ ?_ x
  · intro y z g; cases g
  · intro b y z g; cases g
  · intro i y z _ gy gz h k
    cases y with
    | int j => cases z with
      | int l =>
        simp only [cD] at *
        rw [Int.compare_eq_lt] at *; (first | lia | omega)
      | none | bool _ | dict _ => cases gz
      | _ => rfl
    | none | bool _ | dict _ => cases gy
    | str _ => cases z with
      | none | bool _ | dict _ => cases gz
      | int _ => (exact absurd k (fun e => nomatch e))
      | _ => rfl
    | tuple _ => cases z with
      | none | bool _ | dict _ => cases gz
      | int _ => (exact absurd k (fun e => nomatch e))
      | _ => rfl
    | list _ => cases z with
      | none | bool _ | dict _ => cases gz
      | int _ => (exact absurd k (fun e => nomatch e))
      | _ => rfl
  · intro a y z _ gy gz h k
    cases y with
    | int j => (exact absurd h (fun e => nomatch e))
    | none | bool _ | dict _ => cases gy
    | str b => cases z with
      | str c =>
        simp only [cD] at *
        split at h
        · split at k
          · rename_i l1 l2
            rw [if_pos (List.lt_trans l1 l2)]
          · split at k <;> cases k
        · split at h <;> cases h
      | none | bool _ | dict _ => cases gz
      | int _ => (exact absurd k (fun e => nomatch e))
      | _ => rfl
    | tuple _ => cases z with
      | none | bool _ | dict _ => cases gz
      | int _ => (exact absurd k (fun e => nomatch e))
      | str _ => (exact absurd k (fun e => nomatch e))
      | _ => rfl
    | list _ => cases z with
      | none | bool _ | dict _ => cases gz
      | int _ => (exact absurd k (fun e => nomatch e))
      | str _ => (exact absurd k (fun e => nomatch e))
      | _ => rfl
  · intro xs ih y z gx gy gz h k
    cases y with
    | int j => (exact absurd h (fun e => nomatch e))
    | str j => (exact absurd h (fun e => nomatch e))
    | none | bool _ | dict _ => cases gy
    | tuple ys => cases z with
      | none | bool _ | dict _ => cases gz
      | int _ => (exact absurd k (fun e => nomatch e))
      | str _ => (exact absurd k (fun e => nomatch e))
      | tuple zs =>
        simp only [cD, gd] at *
        exact cL_trans ih ys zs gx gy gz h k
      | _ => rfl
    | list _ => cases z with
      | none | bool _ | dict _ => cases gz
      | int _ => (exact absurd k (fun e => nomatch e))
      | str _ => (exact absurd k (fun e => nomatch e))
      | tuple _ => (exact absurd k (fun e => nomatch e))
      | _ => rfl
  · intro xs ih y z gx gy gz h k
    cases y with
    | int j => (exact absurd h (fun e => nomatch e))
    | str j => (exact absurd h (fun e => nomatch e))
    | tuple j => (exact absurd h (fun e => nomatch e))
    | none | bool _ | dict _ => cases gy
    | list ys => cases z with
      | none | bool _ | dict _ => cases gz
      | int _ => (exact absurd k (fun e => nomatch e))
      | str _ => (exact absurd k (fun e => nomatch e))
      | tuple _ => (exact absurd k (fun e => nomatch e))
      | list zs =>
        simp only [cD, gd] at *
        exact cL_trans ih ys zs gx gy gz h k
  · intro kvs y z g; cases g

theorem eqvAll_eq {xs : List PyData} (ih : ∀ x ∈ xs, ∀ y, gd x = true → gd y = true → (PyData.eqv x y = true ↔ x = y)) : ∀ ys, gdL xs = true → gdL ys = true → (PyData.eqvAll xs ys = true ↔ xs = ys) := by
  induction xs with
  | nil => intro ys _ _; cases ys <;> simp [PyData.eqvAll]
  | cons x xs hi =>
    intro ys gx gy
    cases ys with
    | nil => simp [PyData.eqvAll]
    | cons y ys =>
      rw [gdL, Bool.and_eq_true] at gx gy
      simp only [PyData.eqvAll, Bool.and_eq_true, List.cons.injEq]
      rw [ih x (.head _) y gx.1 gy.1, hi (fun z hz => ih z (.tail _ hz)) ys gx.2 gy.2]
theorem eqv_eq (x : PyData) : ∀ y, gd x = true → gd y = true → (PyData.eqv x y = true ↔ x = y) := by
  refine pyInd (P := fun x => ∀ y, gd x = true → gd y = true → (PyData.eqv x y = true ↔ x = y)) ?_ ?_ ?_ ?_ ?_ ?_ ?_ x
  · intro y g; cases g
  · intro b y g; cases g
  · intro i y _ g
    cases y with
    | none | bool _ | dict _ => cases g
    | _ => simp [PyData.eqv]
  · intro a y _ g
    cases y with
    | none | bool _ | dict _ => cases g
    | _ => simp [PyData.eqv]
  · intro xs ih y g g'
    cases y with
    | tuple ys => simp only [PyData.eqv, PyData.tuple.injEq]; exact eqvAll_eq ih ys (by simpa [gd] using g) (by simpa [gd] using g')
    | none | bool _ | dict _ => cases g'
    | _ => simp [PyData.eqv]
  · intro xs ih y g g'
    cases y with
    | list ys => simp only [PyData.eqv, PyData.list.injEq]; exact eqvAll_eq ih ys (by simpa [gd] using g) (by simpa [gd] using g')
    | none | bool _ | dict _ => cases g'
    | _ => simp [PyData.eqv]
  · intro kvs y g; cases g

theorem ltL_cL {xs : List PyData} (ih : ∀ x ∈ xs, ∀ y r, gd x = true → gd y = true → ltD x y = some r → r = (cD x y == .lt)) : ∀ ys r, gdL xs = true → gdL ys = true → ltL xs ys = some r → r = (cL xs ys == .lt) := by
  induction xs with
  | nil => intro ys r _ _ h; cases ys <;> (simp [ltL] at h; subst h; rfl)
  | cons x xs hi =>
    intro ys r gx gy h
    cases ys with
    | nil => simp [ltL] at h; subst h; rfl
    | cons y ys =>
      rw [gdL, Bool.and_eq_true] at gx gy
      rw [ltL] at h
      rw [cL]
      split at h
      · rename_i e
        rw [eqv_eq x y gx.1 gy.1] at e
        subst e
        rw [cD_refl x gx.1]
        exact hi (fun z hz => ih z (.tail _ hz)) ys r gx.2 gy.2 h
      · rename_i e
        rw [eqv_eq x y gx.1 gy.1] at e
        rw [ih x (.head _) y r gx.1 gy.1 h]
        cases q : cD x y with
        | eq => exact absurd (cD_eq x y gx.1 gy.1 q) e
        | lt => rfl
        | gt => rfl
theorem ltD_cD (x : PyData) : ∀ y r, gd x = true → gd y = true → ltD x y = some r → r = (cD x y == .lt) := by
  refine pyInd (P := fun x => ∀ y r, gd x = true → gd y = true → ltD x y = some r → r = (cD x y == .lt)) ?_ ?_ ?_ ?_ ?_ ?_ ?_ x
  · intro y r g; cases g
  · intro b y r g; cases g
  · intro i y r _ g h
    cases y with
    | int j =>
      simp only [ltD, Option.some.injEq] at h
      subst h
      simp only [cD]
      by_cases hh : i < j
      · rw [Int.compare_eq_lt.mpr hh]; simp [hh]
      · have : compare i j ≠ .lt := fun q => hh (Int.compare_eq_lt.mp q)
        simp only [hh, decide_false]
        cases q : compare i j <;> first | rfl | exact absurd q this
    | _ => simp [ltD] at h
  · intro a y r _ g h
    cases y with
    | str b =>
      simp only [ltD, Option.some.injEq] at h
      subst h
      simp only [cD]
      by_cases hh : a.cps.toList < b.cps.toList
      · simp [hh]
      · simp only [hh, decide_false, if_false]
        split <;> rfl
    | _ => simp [ltD] at h
  · intro xs ih y r g g' h
    cases y with
    | tuple ys =>
      rw [ltD] at h
      simp only [cD, gd] at *
      exact ltL_cL ih ys r g g' h
    | _ => simp [ltD] at h
  · intro xs ih y r g g' h
    cases y with
    | list ys =>
      rw [ltD] at h
      simp only [cD, gd] at *
      exact ltL_cL ih ys r g g' h
    | _ => simp [ltD] at h
  · intro kvs y r g; cases g

/-! sorting -/
noncomputable def Asc (xs : List PyData) : Prop := xs.Pairwise fun x y => cD x y ≠ .gt
theorem ngt_trans {x y z : PyData} (gx : gd x = true) (gy : gd y = true) (gz : gd z = true) (h : cD x y ≠ .gt) (k : cD y z ≠ .gt) : cD x z ≠ .gt := by
  cases q : cD x y with
  | gt => exact absurd q h
  | eq => rw [cD_eq x y gx gy q]; exact k
  | lt =>
    cases r : cD y z with
    | gt => exact absurd r k
    | eq => rw [← cD_eq y z gy gz r, q]; simp
    | lt => rw [cD_trans x y z gx gy gz q r]; simp
theorem insC_perm (x : PyData) : ∀ xs, (insC x xs).Perm (x :: xs)
  | [] => .refl _
  | y :: ys => by
    rw [insC]
    split
    · exact ((insC_perm x ys).cons y).trans (.swap x y ys)
    · exact .refl _
theorem sortC_perm : ∀ xs, (sortC xs).Perm xs
  | [] => .refl _
  | x :: xs => (insC_perm x _).trans ((sortC_perm xs).cons x)
theorem insC_asc {x : PyData} (gx : gd x = true) : ∀ {xs : List PyData}, (∀ y ∈ xs, gd y = true) → Asc xs → Asc (insC x xs)
  | [], _, _ => by simp [insC, Asc]
  | y :: ys, g, h => by
    obtain ⟨h1, h2⟩ := List.pairwise_cons.mp h
    rw [insC]
    split
    · rename_i e
      refine List.pairwise_cons.mpr ⟨fun z hz => ?_, insC_asc gx (fun z hz => g z (.tail _ hz)) h2⟩
      rcases List.mem_cons.mp ((insC_perm x ys).mem_iff.mp hz) with q | q
      · subst q; rw [cD_swap z y, e]; simp
      · exact h1 z q
    · rename_i e
      refine List.pairwise_cons.mpr ⟨fun z hz => ?_, h⟩
      rcases List.mem_cons.mp hz with q | q
      · subst q; exact e
      · exact ngt_trans gx (g y (.head _)) (g z (.tail _ q)) e (h1 z q)
theorem sortC_asc : ∀ {xs : List PyData}, (∀ y ∈ xs, gd y = true) → Asc (sortC xs)
  | [], _ => .nil
  | x :: xs, g => insC_asc (g x (.head _)) (fun y hy => g y (.tail _ ((sortC_perm xs).mem_iff.mp hy))) (sortC_asc fun y hy => g y (.tail _ hy))
theorem asc_unique : ∀ {xs ys : List PyData}, (∀ y ∈ xs, gd y = true) → xs.Perm ys → Asc xs → Asc ys → xs = ys
  | [], ys, _, p, _, _ => (List.nil_perm.mp p).symm
  | x :: xs, [], _, p, _, _ => (List.Perm.eq_nil p)
  | x :: xs, y :: ys, g, p, hx, hy => by
    obtain ⟨hx1, hx2⟩ := List.pairwise_cons.mp hx
    obtain ⟨hy1, hy2⟩ := List.pairwise_cons.mp hy
    have e : x = y := by
      rcases List.mem_cons.mp (p.mem_iff.mp (.head xs)) with q | q
      · exact q
      · rcases List.mem_cons.mp (p.mem_iff.mpr (.head ys)) with r | r
        · exact r.symm
        · have a := hx1 y r
          have b := hy1 x q
          rw [cD_swap x y] at b
          refine cD_eq x y (g x (.head _)) (g y (.tail _ r)) ?_
          cases z : cD x y with
          | eq => rfl
          | gt => exact absurd z a
          | lt => rw [z] at b; simp at b
    subst e
    rw [asc_unique (fun y hy => g y (.tail _ hy)) (List.perm_cons x |>.mp p) hx2 hy2]
end Mine

namespace Mine
open PySem PySem.W PyProof.Rows PySem.Calls PySem.SeqAt

theorem mkd {p : List PyData} {x : PyData} {k : Nat} (h : k < p.length) : p.getD k x = p[k] := by simp [h]
theorem mkd' {p : List Value} {x : Value} {k : Nat} (h : k < p.length) : p.getD k x = p[k] := by simp [h]

section
variable {prog : Program} {w : World} {A : Around} {s : Shared} {b : Bool} {Q : Bool → Shared → Prop}
theorem oneLt_data {da db : PyData} {r : Bool} (h : ltD da db = some r) {x y : Value} {as bs : List Addr} (ra : Reads s.heap x da as) (rb : Reads s.heap y db bs) (ha : da.canLay0 = true) (hb : db.canLay0 = true)
    (hu : A.units + da.depth < cLine) (hq : Q r s) : wpAny (model prog w) A (oneLt' false x y) Q (fun _ _ => False) s :=
  kat_one x y (ltAt_reads da db r h A s x y as bs ra rb ha hb hu prog w _ _ (show PySem.W.BoolBack Q (.bool r) s from hq))
theorem katLex_data : ∀ (xs ys : List PyData) (r : Bool), ltL xs ys = some r → ∀ (vs ws : List Value) (as bs : List Addr) (i : Nat), ReadsAll s.heap vs xs as → ReadsAll s.heap ws ys bs →
    PyData.canLayAll0 xs = true → PyData.canLayAll0 ys = true → A.units + PyData.depthAll xs < cLine → (b && i == 0) = false → Q r s → KatLex prog w A b (decide (vs.length < ws.length)) Q (vs.zip ws) i s
  | [], [], r, h, _, _, _, _, i, ra, rb, _, _, _, _, hq => by
    cases ra; cases rb
    simp only [ltL, Option.some.injEq] at h
    subst h
    exact hq
  | [], _ :: _, r, h, _, _, _, _, i, ra, rb, _, _, _, _, hq => by
    cases ra; cases rb
    simp only [ltL, Option.some.injEq] at h
    subst h
    refine kat_nil ?_
    simpa using hq
  | _ :: _, [], r, h, _, _, _, _, i, ra, rb, _, _, _, _, hq => by
    cases ra; cases rb
    simp only [ltL, Option.some.injEq] at h
    subst h
    refine kat_nil ?_
    simpa using hq
  | x :: xs, y :: ys, r, h, _, _, _, _, i, ra, rb, ha, hb, hu, hi, hq => by
    have ha' : x.canLay0 = true ∧ PyData.canLayAll0 xs = true := by simpa [PyData.canLayAll0] using ha
    have hb' : y.canLay0 = true ∧ PyData.canLayAll0 ys = true := by simpa [PyData.canLayAll0] using hb
    simp only [PyData.depthAll] at hu
    have hu1 := Nat.le_max_left x.depth (PyData.depthAll xs)
    have hu2 := Nat.le_max_right x.depth (PyData.depthAll xs)
    cases ra with
    | @cons v vs _ _ as₁ as₂ r1 rs =>
      cases rb with
      | @cons v' vs' _ _ bs₁ bs₂ r1' rs' =>
        rw [ltL] at h
        have hm := Nat.min_le_left x.depth y.depth
        refine kat_cons (eqBoolOverData prog w A _ s v v' x y as₁ bs₁ _ r1 r1' ha'.1 hb'.1 (by (first | lia | omega)) ?_)
        refine kat_go (fun e => kat_yes ?_) (fun e => kat_no ?_)
        · rw [if_pos e] at h
          have q := katLex_data xs ys r h vs vs' _ _ (i + 1) rs rs' ha'.2 hb'.2 (by (first | lia | omega)) (by simp) hq
          have e : decide ((v :: vs).length < (v' :: vs').length) = decide (vs.length < vs'.length) := by simp
          rw [e]
          exact q
        · rw [if_neg (by simp [e])] at h
          rw [hi]
          exact oneLt_data h r1 r1' ha'.1 hb'.1 (by (first | lia | omega)) hq
/-- the firsts are ints or strs: the short way -/
theorem katLex_first {x y : PyData} {t : Nat} (ht : t = 2 ∨ t = 3) (hx : tagD x = t) (hy : tagD y = t) {xs ys : List PyData} {r : Bool} (h : ltL (x :: xs) (y :: ys) = some r) {vs ws : List Value} {as bs : List Addr}
    (ra : ReadsAll s.heap vs (x :: xs) as) (rb : ReadsAll s.heap ws (y :: ys) bs) (ha : PyData.canLayAll0 (x :: xs) = true) (hb : PyData.canLayAll0 (y :: ys) = true) (hu : A.units + PyData.depthAll (x :: xs) < cLine) (hq : Q r s) :
    KatLex prog w A b (decide (vs.length < ws.length)) Q (vs.zip ws) 0 s := by
  have ha' : x.canLay0 = true ∧ PyData.canLayAll0 xs = true := by simpa [PyData.canLayAll0] using ha
  have hb' : y.canLay0 = true ∧ PyData.canLayAll0 ys = true := by simpa [PyData.canLayAll0] using hb
  simp only [PyData.depthAll] at hu
  have hu1 := Nat.le_max_left x.depth (PyData.depthAll xs)
  have hu2 := Nat.le_max_right x.depth (PyData.depthAll xs)
  cases ra with
  | @cons v vs _ _ as₁ as₂ r1 rs =>
    cases rb with
    | @cons v' vs' _ _ bs₁ bs₂ r1' rs' =>
      rw [ltL] at h
      have hm := Nat.min_le_left x.depth y.depth
      refine kat_cons (eqBoolOverData prog w A _ s v v' x y as₁ bs₁ _ r1 r1' ha'.1 hb'.1 (by (first | lia | omega)) ?_)
      refine kat_go (fun e => kat_yes ?_) (fun e => kat_no ?_)
      · rw [if_pos e] at h
        have q := katLex_data (prog := prog) (w := w) (A := A) (b := b) xs ys r h vs vs' _ _ 1 rs rs' ha'.2 hb'.2 (by (first | lia | omega)) (by simp) hq
        have e : decide ((v :: vs).length < (v' :: vs').length) = decide (vs.length < vs'.length) := by simp
        rw [e]
        exact q
      · rw [if_neg (by simp [e])] at h
        cases b with
        | false => exact oneLt_data h r1 r1' ha'.1 hb'.1 (by (first | lia | omega)) hq
        | true =>
          rcases ht with rfl | rfl
          · cases x <;> simp [tagD] at hx
            cases y <;> simp [tagD] at hy
            cases r1; cases r1'
            simp only [ltD, Option.some.injEq] at h
            subst h
            exact oneLt_int hq
          · cases x <;> simp [tagD] at hx
            cases y <;> simp [tagD] at hy
            cases r1; cases r1'
            simp only [ltD, Option.some.injEq] at h
            subst h
            exact oneLt_str hq
end

theorem IsAll.getD {g : Heap} {vs : List Value} {ds : List PyData} (h : IsAll g vs ds) {i : Nat} (hi : i < ds.length) (v₀ : Value) : Is g (vs.getD i v₀) ds[i] := by
  obtain ⟨v, e, q⟩ := h.get (k := i) (d := ds[i]) (by simp [hi])
  rw [List.getD_eq_getElem?_getD, e]
  exact q
theorem isTag_of {xs : List PyData} {t : Nat} (h : xs.all (isTag t) = true) {x : PyData} (hx : x ∈ xs) : tagD x = t := by
  have := List.all_eq_true.mp h x hx
  simpa [isTag] using this
theorem isFst_of {xs : List PyData} {t : Nat} (h : xs.all (isFst t) = true) {x : PyData} (hx : x ∈ xs) : ∃ y ys, x = .tuple (y :: ys) ∧ tagD y = t := by
  have := List.all_eq_true.mp h x hx
  unfold isFst firstOf at this
  match x, this with
  | .tuple (y :: ys), this => exact ⟨y, ys, rfl, by simpa using this⟩

theorem katTups_of {h : Heap} {t : Nat} : ∀ {vs : List Value} {xs : List PyData}, IsAll h vs xs → (∀ x ∈ xs, ∃ y ys, x = .tuple (y :: ys) ∧ tagD y = t) →
    ∃ fs : List Value, KatTups h vs fs ∧ fs.length = vs.length ∧ ∀ f ∈ fs, ∃ y, tagD y = t ∧ Is h f y
  | vs, [], hI, _ => by rw [hI.nil_inv]; exact ⟨[], .nil, rfl, by simp⟩
  | vs, x :: xs, hI, hx => by
    obtain ⟨v, ws, rfl, hv, hw⟩ := hI.cons_inv
    obtain ⟨fs, k, l, m⟩ := katTups_of hw fun z hz => hx z (.tail _ hz)
    obtain ⟨y, ys, rfl, ht⟩ := hx x (.head _)
    obtain ⟨a, o, zs, n, rfl, ho, hc, hd, hz⟩ := hv.tuple_inv
    obtain ⟨f, fr, e, hf, _⟩ := hz.cons_inv
    have e0 : zs[0]? = some f := by rw [← Array.getElem?_toList, e]; rfl
    refine ⟨f :: fs, .cons ho hc hd e0 k, by simp [l], fun f' hf' => ?_⟩
    rcases List.mem_cons.mp hf' with rfl | q
    · exact ⟨y, ht, hf⟩
    · exact m f' q
theorem looks_tag {M : Model} {h : Heap} {f : Value} {y : PyData} {t : Nat} (i : Is h f y) (ht : tagD y = t) (h234 : t = 2 ∨ t = 3 ∨ t = 4) :
    Looks M h (typeOf f) (.type (if t = 2 then "int" else if t = 3 then "str" else "tuple")) := by
  obtain ⟨as, r⟩ := i
  cases r with
  | none => simp [tagD] at ht; (first | lia | omega)
  | bool b => simp [tagD] at ht; (first | lia | omega)
  | int i t => simp [tagD] at ht; subst ht; exact .now
  | str x t => simp [tagD] at ht; subst ht; exact .now
  | list a b c d => simp [tagD] at ht; (first | lia | omega)
  | dict => simp [tagD] at ht; (first | lia | omega)
  | tuple a b c d =>
    simp [tagD] at ht; subst ht
    rw [show (Value.type (if 4 = 2 then "int" else if 4 = 3 then "str" else "tuple")) = .type "tuple" from rfl, ← b]
    exact (Looks.ld a).andThen .now
section
variable {G : Cfg} {A : Around} {s : Shared} {g : Heap} {σ : Sg} {v u : Value} {xs ys : List PyData} {x y d : PyData}

theorem asks_of {vs : List Value} (hI : IsAll s.heap vs xs) (hok : sortOk xs = true) (hu : A.units + 100 < cLine) :
    Asks G.prog G.w A vs (fun i j => cD (xs.getD i .none) (xs.getD j .none) == .lt) s := by
  unfold sortOk at hok
  simp only [Bool.and_eq_true, decide_eq_true_eq] at hok
  obtain ⟨⟨⟨⟨⟨h2, h64⟩, hs⟩, hg⟩, hk⟩, hp⟩ := hok
  have hl := hI.length
  obtain ⟨hc, hd⟩ := shaped_list hs
  have hcl : ∀ (zs : List PyData), PyData.canLayAll0 zs = true → ∀ z ∈ zs, z.canLay0 = true := by
    intro zs
    induction zs with
    | nil => intro _ z hz; cases hz
    | cons a as ih =>
      intro h z hz
      simp only [PyData.canLayAll0, Bool.and_eq_true] at h
      rcases List.mem_cons.mp hz with rfl | q
      · exact h.1
      · exact ih h.2 z q
  have hdp : ∀ (zs : List PyData), ∀ z ∈ zs, z.depth ≤ PyData.depthAll zs := by
    intro zs
    induction zs with
    | nil => intro z hz; cases hz
    | cons a as ih =>
      intro z hz
      simp only [PyData.depthAll]
      rcases List.mem_cons.mp hz with rfl | q
      · exact Nat.le_max_left _ _
      · exact Nat.le_trans (ih z q) (Nat.le_max_right _ _)
  have hr : ∀ {i j : Nat}, i < xs.length → j < xs.length → ∃ r, ltD (xs.getD i .none) (xs.getD j .none) = some r ∧ r = (cD (xs.getD i .none) (xs.getD j .none) == .lt) := by
    intro i j hi hj
    rw [mkd hi, mkd hj]
    have := List.all_eq_true.mp (List.all_eq_true.mp hp _ (List.getElem_mem hi)) _ (List.getElem_mem hj)
    obtain ⟨r, e⟩ := Option.isSome_iff_exists.mp this
    exact ⟨r, e, ltD_cD _ _ _ (gdL_mem hg _ (List.getElem_mem hi)) (gdL_mem hg _ (List.getElem_mem hj)) e⟩
  unfold kindOk at hk
  simp only [Bool.or_eq_true] at hk
  have hne : vs ≠ [] := by intro e; subst e; simp at hl; (first | lia | omega)
  have tups : ∀ t, (t = 2 ∨ t = 3 ∨ t = 4) → xs.all (isFst t) = true → Asks G.prog G.w A vs (fun i j => cD (xs.getD i .none) (xs.getD j .none) == .lt) s := by
    intro t ht hf
    obtain ⟨fs, k, l, m⟩ := katTups_of hI fun x hx => isFst_of hf hx
    refine ⟨_, fun Q E hq => kat_kind (T := .type (if t = 2 then "int" else if t = 3 then "str" else "tuple")) k (by (first | lia | omega)) (fun f hf' => ?_) ?_ hq, fun i j C hi hj hC => ?_⟩
    · obtain ⟨y, hy, hi⟩ := m f hf'
      exact looks_tag hi hy ht
    · rcases ht with rfl | rfl | rfl <;> rfl
    · rw [hl] at hi hj
      obtain ⟨r, e1, e2⟩ := hr hi hj
      have q1 := hI.getD hi .none
      have q2 := hI.getD hj .none
      simp only [← e2] at hC
      rw [mkd hi, mkd hj] at e1
      have m1 := List.getElem_mem hi
      have m2 := List.getElem_mem hj
      obtain ⟨y1, ys1, z1, t1⟩ := isFst_of hf m1
      obtain ⟨y2, ys2, z2, t2⟩ := isFst_of hf m2
      have c1 := hcl xs hc _ m1
      have c2 := hcl xs hc _ m2
      have d1 := Nat.le_trans (hdp xs _ m1) hd
      rw [z1] at q1 e1 c1 d1
      rw [z2] at q2 e1 c2
      obtain ⟨a1, o1, b1, n1, w1, g1, k1, p1, as1, rs1⟩ := q1.tuple_inv
      obtain ⟨a2, o2, b2, n2, w2, g2, k2, p2, as2, rs2⟩ := q2.tuple_inv
      rw [ltD] at e1
      simp only [PyData.depth] at d1
      unfold kas_ask
      rw [w1, w2]
      refine kat_lt g1 p1 g2 p2 ?_
      rcases ht with rfl | rfl | rfl
      · have := katLex_first (prog := G.prog) (w := G.w) (A := A) (b := (Value.type (if 2 = 2 then "int" else if 2 = 3 then "str" else "tuple") != Value.type "tuple")) (.inl rfl) t1 t2 e1 rs1 rs2 c1 c2 (by (first | lia | omega)) hC
        simpa using this
      · have := katLex_first (prog := G.prog) (w := G.w) (A := A) (b := (Value.type (if 3 = 2 then "int" else if 3 = 3 then "str" else "tuple") != Value.type "tuple")) (.inr rfl) t1 t2 e1 rs1 rs2 c1 c2 (by (first | lia | omega)) hC
        simpa using this
      · have := katLex_data (prog := G.prog) (w := G.w) (A := A) (b := (Value.type (if 4 = 2 then "int" else if 4 = 3 then "str" else "tuple") != Value.type "tuple")) _ _ _ e1 _ _ _ _ 0 rs1 rs2 c1 c2 (by (first | lia | omega)) (by rfl) hC
        simpa using this
  rcases hk with ((hk | hk) | hk) | hk
  · refine ⟨oneType', fun Q E hq => kas_kind (T := .type "str") (by (first | lia | omega)) (fun v hv => ?_) rfl rfl hq, fun i j C hi hj hC => ?_⟩
    · obtain ⟨i, hi, e⟩ := List.mem_iff_getElem.mp hv
      have q := hI.getD (i := i) (by (first | lia | omega)) .none
      rw [mkd' hi, e] at q
      exact looks_tag (t := 3) q (isTag_of hk (List.getElem_mem (by (first | lia | omega)))) (.inr (.inl rfl))
    · rw [hl] at hi hj
      obtain ⟨r, e1, e2⟩ := hr hi hj
      have q1 := hI.getD hi .none
      have q2 := hI.getD hj .none
      simp only [← e2] at hC
      rw [mkd hi, mkd hj] at e1
      have t1 := isTag_of hk (List.getElem_mem hi)
      have t2 := isTag_of hk (List.getElem_mem hj)
      generalize xs[i] = x at q1 e1 t1
      generalize xs[j] = y at q2 e1 t2
      cases x <;> simp [tagD] at t1
      cases y <;> simp [tagD] at t2
      obtain ⟨t, w1⟩ := q1.str_inv
      obtain ⟨t', w2⟩ := q2.str_inv
      simp only [ltD, Option.some.injEq] at e1
      unfold kas_ask
      rw [w1, w2]
      exact kas_lt_str (e1 ▸ hC)
  · exact tups 2 (.inl rfl) hk
  · exact tups 3 (.inr (.inl rfl)) hk
  · exact tups 4 (.inr (.inr rfl)) hk

theorem kord_of (hg : gdL xs = true) : KOrd xs.length (fun i j => cD (xs.getD i .none) (xs.getD j .none) == .lt) where
  asym := fun i j hi hj h => by
    have h' : cD (xs.getD i .none) (xs.getD j .none) = .lt := by simpa using h
    rw [cD_swap (xs.getD i .none) (xs.getD j .none), h']; rfl
  tr := fun i j k hi hj hk h1 h2 => by
    unfold kle at *
    dsimp only at *
    simp only [mkd hi, mkd hj, mkd hk] at *
    have gi := gdL_mem hg _ (List.getElem_mem hi)
    have gj := gdL_mem hg _ (List.getElem_mem hj)
    have gk := gdL_mem hg _ (List.getElem_mem hk)
    have f1 : ∀ {a b : PyData}, (cD b a == .lt) = false ↔ cD a b ≠ .gt := fun {a b} => by
      rw [cD_swap a b]; cases cD a b <;> simp
    rw [f1] at h1 h2 ⊢
    exact ngt_trans gi gj gk h1 h2
  rf := fun i hi => by
    unfold kle
    dsimp only
    rw [mkd hi, cD_refl _ (gdL_mem hg _ (List.getElem_mem hi))]; rfl

theorem sorted_data {p : Array Nat} (hg : gdL xs = true) (hp : PermN xs.length p) (hs : SortedUp (fun i j => cD (xs.getD i .none) (xs.getD j .none) == .lt) p xs.length) :
    p.toList.map (fun i => xs.getD i .none) = sortC xs := by
  have hperm : (p.toList.map fun i => xs.getD i .none).Perm xs := by
    have := (Array.perm_iff_toList_perm.mp hp.perm)
    have q := this.map fun i => xs.getD i PyData.none
    have e : (List.range xs.length).map (fun i => xs.getD i PyData.none) = xs := by
      apply List.ext_getElem
      · simp
      · intro n h1 h2; simp [h2]
    simp only [List.toList_toArray] at q
    rw [e] at q
    exact q
  refine asc_unique (fun y hy => gdL_mem hg y (hperm.mem_iff.mp hy)) (hperm.trans (sortC_perm xs).symm) ?_ (sortC_asc (gdL_mem hg))
  unfold Asc
  rw [List.pairwise_iff_getElem]
  intro i j hi hj hij
  simp only [List.length_map, Array.length_toList, hp.size] at hi hj
  have := hs i j (Nat.le_of_lt hij) hj
  unfold kle at this
  have e : ∀ k, k < xs.length → (p.toList.map fun i => xs.getD i PyData.none)[k]? = some (xs.getD (at' p k) .none) := fun k hk => by
    have : k < p.size := by rw [hp.size]; exact hk
    simp [at', Array.getD, this]
  have e1 := e i hi
  have e2 := e j hj
  rw [List.getElem?_eq_some_iff] at e1 e2
  obtain ⟨_, e1⟩ := e1
  obtain ⟨_, e2⟩ := e2
  rw [e1, e2]
  dsimp only at this
  rw [cD_swap (xs.getD (at' p i) .none) (xs.getD (at' p j) .none)] at this
  intro q
  rw [q] at this
  exact absurd this (by decide)

theorem sorted_run (i : Inv G g σ s) {n : Nat} (rm : Room A n) (hv : Is g v (.list xs)) (hok : sortOk xs = true) :
    Runs G A s g σ (call (.builtin "sorted") [v]) (fun r g' => Is g' r (.list (sortC xs))) := by
  obtain ⟨a, vs, rfl, hl, hI⟩ := hv.lst_at i
  have hlen := hI.length
  have hok' := hok
  unfold sortOk at hok'
  simp only [Bool.and_eq_true, decide_eq_true_eq] at hok'
  obtain ⟨⟨⟨⟨⟨h2, h64⟩, hs⟩, hg⟩, hk⟩, hp⟩ := hok'
  have O := kord_of hg
  have S := sort_spec O (by (first | lia | omega))
  refine sorted_raw (vs := vs.toList) (by simpa using hl) (by (first | lia | omega)) (by (first | lia | omega)) (by rw [hlen]; exact S) (fun h' k => asks_of (A := A.in1.in1) ((hI.mono i.sub).mono k) hok ?_) fun p D h' c hR k hD hD' => ?_
  · have := rm.units
    show A.units + 1 + 1 + 100 < cLine
    (first | lia | omega)
  · have hp' : PermN xs.length p := hR.1
    have e := sorted_data hg hp' hR.2
    refine ⟨_, Stp.all i k (fun b => b = D) (fun b hb => by rw [hb]; exact hD), ?_⟩
    refine Is.list (frz_new rfl hD') rfl rfl ?_
    have hm := hI.map_get p.toList (fun k hk => ?_) .none .none
    · rw [e] at hm
      refine hm.mono ?_
      exact frz_grow (i.sub.trans k)
    · have := (Array.perm_iff_toList_perm.mp hp'.perm).mem_iff.mp hk
      simpa using this
end
end Mine

namespace Mine
open PySem PySem.W PyProof.Rows PySem.Calls

structure Glb (G : Cfg) : Prop where
  kin : G.K.In G.h₀
  ns : G.h₀.Ns mainGlobals G.mg
  nb : G.h₀.Ns builtinsNs G.mb
  lim : G.h₀.NoLimit
  bui : ∀ x : Str, x ≠ "__name__" → G.mb x = bootBuiltins x
noncomputable def AllV (G : Cfg) (g : Heap) : List Value → List V → Prop
  | [], [] => True
  | v :: vs, x :: xs => IsV G g v x ∧ AllV G g vs xs
  | _, _ => False
theorem AllV.mono {G : Cfg} {g g' : Heap} (st : Sub g g') : ∀ {vs : List Value} {xs : List V}, AllV G g vs xs → AllV G g' vs xs
  | [], [], _ => trivial
  | _ :: _, _ :: _, h => ⟨h.1.mono st, h.2.mono st⟩
  | [], _ :: _, h => h.elim
  | _ :: _, [], h => h.elim
theorem AllV.length {G : Cfg} {g : Heap} : ∀ {vs : List Value} {xs : List V}, AllV G g vs xs → vs.length = xs.length
  | [], [], _ => rfl
  | _ :: _, _ :: _, h => by rw [List.length_cons, List.length_cons, h.2.length]
  | [], _ :: _, h => h.elim
  | _ :: _, [], h => h.elim
theorem AllV.datas {G : Cfg} {g : Heap} : ∀ {vs : List Value} {xs : List V} {ds : List PyData}, AllV G g vs xs → datas xs = some ds → IsAll g vs ds
  | [], [], ds, _, e => by simp only [Mine.datas, Option.some.injEq] at e; subst e; exact .nil
  | v :: vs, .d x :: xs, ds, h, e => by
    simp only [Mine.datas, Option.map_eq_some_iff] at e
    obtain ⟨r, e, rfl⟩ := e
    exact .cons h.1 (h.2.datas e)
  | _ :: _, .me _ :: _, ds, _, e => by simp [Mine.datas] at e
  | _ :: _, .feed :: _, ds, _, e => by simp [Mine.datas] at e
  | [], _ :: _, _, h, _ => h.elim
  | _ :: _, [], _, h, _ => h.elim

structure Wd where
  G : Cfg
  adr : Nat → Addr
  glo : Nat → Option PyData
  R : Nat → List V → Sg → Option (V × Sg)
  n : Nat
structure Wd.Ok (W : Wd) : Prop where
  glb : Glb W.G
  call : ∀ f xs σ v σ', W.R f xs σ = some (v, σ') → ∀ A s g vs, Room A W.n → Inv W.G g σ s → AllV W.G g vs xs → Runs W.G A s g σ' (call (.ref (W.adr f)) vs) (fun r g' => IsV W.G g' r v)

noncomputable def SndE (W : Wd) (cx : Cx) (ast : Expr) (e : E) : Prop :=
  ∀ ⦃κ : Anc⦄ A s g σ env ρ xs σ', Room A W.n → Inv W.G g σ s → EnvOk W.G cx κ g s.heap env ρ → ev W.glo W.R e ρ σ = some (xs, σ') → Runs W.G A s g σ' (eval ast env) (fun r g' => ∃ x, xs = [x] ∧ IsV W.G g' r x)
noncomputable def SndB (W : Wd) (cx : Cx) (ast : Expr) (e : E) : Prop :=
  ∀ ⦃κ : Anc⦄ A s g σ env ρ b σ', Room A W.n → Inv W.G g σ s → EnvOk W.G cx κ g s.heap env ρ → oneB (ev W.glo W.R e ρ σ) = some (b, σ') → Runs W.G A s g σ' (isTrue ast env (eval ast env)) (fun c g' => c = b)
noncomputable def SndEs (W : Wd) (cx : Cx) (asts : List Expr) (e : E) : Prop :=
  ∀ ⦃κ : Anc⦄ A s g σ env ρ xs σ' pos, Room A W.n → Inv W.G g σ s → EnvOk W.G cx κ g s.heap env ρ → ev W.glo W.R e ρ σ = some (xs, σ') → Runs W.G A s g σ' (spliced (backTo pos (starEach asts env))) (fun rs g' => AllV W.G g' rs xs)

section
variable {W : Wd} {cx : Cx} {A : Around} {s : Shared} {g : Heap} {σ σ' : Sg} {ρ : List Bnd} {κ : Anc}
theorem oneV_eq {r : Option (List V × Sg)} {x : V} {σ : Sg} (h : oneV r = some (x, σ)) : r = some ([x], σ) := by
  unfold oneV at h; split at h
  · cases h; rfl
  · cases h
theorem oneD_eq {r : Option (List V × Sg)} {x : PyData} {σ : Sg} (h : oneD r = some (x, σ)) : r = some ([.d x], σ) := by
  unfold oneD at h; split at h
  · cases h; rfl
  · cases h
theorem oneB_eq {r : Option (List V × Sg)} {x : Bool} {σ : Sg} (h : oneB r = some (x, σ)) : r = some ([.d (.bool x)], σ) := by
  unfold oneB at h; split at h
  · cases h; rfl
  · cases h
theorem oneL_eq {r : Option (List V × Sg)} {xs : List PyData} {σ : Sg} (h : oneL r = some (xs, σ)) : (r = some ([.d (.list xs)], σ) ∨ r = some ([.d (.tuple xs)], σ)) ∧ xs.length ≤ lim := by
  unfold oneL at h; split at h
  · split at h
    · cases h; exact ⟨.inl rfl, by assumption⟩
    · cases h
  · split at h
    · cases h; exact ⟨.inr rfl, by assumption⟩
    · cases h
  · cases h

/-- one value, then on -/
theorem SndE.one {ast : Expr} {e : E} (h : SndE W cx ast e) {env : Env} {x : V} (rm : Room A W.n) (i : Inv W.G g σ s) (eo : EnvOk W.G cx κ g s.heap env ρ) (he : oneV (ev W.glo W.R e ρ σ) = some (x, σ')) :
    Runs W.G A s g σ' (eval ast env) (fun r g' => IsV W.G g' r x) :=
  (h A s g σ env ρ _ σ' rm i eo (oneV_eq he)).mono fun r g' ⟨y, e, q⟩ => by cases e; exact q
theorem SndE.oneD {ast : Expr} {e : E} (h : SndE W cx ast e) {env : Env} {x : PyData} (rm : Room A W.n) (i : Inv W.G g σ s) (eo : EnvOk W.G cx κ g s.heap env ρ) (he : Mine.oneD (ev W.glo W.R e ρ σ) = some (x, σ')) :
    Runs W.G A s g σ' (eval ast env) (fun r g' => Is g' r x) :=
  (h A s g σ env ρ _ σ' rm i eo (oneD_eq he)).mono fun r g' ⟨y, e, q⟩ => by cases e; exact q
theorem SndE.oneB {ast : Expr} {e : E} (h : SndE W cx ast e) {env : Env} {x : Bool} (rm : Room A W.n) (i : Inv W.G g σ s) (eo : EnvOk W.G cx κ g s.heap env ρ) (he : Mine.oneB (ev W.glo W.R e ρ σ) = some (x, σ')) :
    Runs W.G A s g σ' (eval ast env) (fun r g' => r = .bool x) :=
  (h A s g σ env ρ _ σ' rm i eo (oneB_eq he)).mono fun r g' ⟨y, e, q⟩ => by cases e; exact Is.bool_inv q
/-! names, constants -/
theorem SndE.int {i : Int} {k : Nat} {pos : Pos} : SndE W cx (.Constant (.int i) k pos) (.lit (.int i)) := fun _ A s g σ env ρ xs σ' rm i eo he => by
  simp only [ev, Option.some.injEq, Prod.mk.injEq] at he
  obtain ⟨rfl, rfl⟩ := he
  exact wpAny_Constant_int ⟨g, .tok i _, _, rfl, Is.int⟩
theorem SndE.str {x : Str} {k : Nat} {pos : Pos} : SndE W cx (.Constant (.str x) k pos) (.lit (.str x)) := fun _ A s g σ env ρ xs σ' rm i eo he => by
  simp only [ev, Option.some.injEq, Prod.mk.injEq] at he
  obtain ⟨rfl, rfl⟩ := he
  exact wpAny_Constant_str ⟨g, .tok i _, _, rfl, Is.str⟩
theorem SndE.bool {b : Bool} {k : Nat} {pos : Pos} : SndE W cx (.Constant (.bool b) k pos) (.lit (.bool b)) := fun _ A s g σ env ρ xs σ' rm i eo he => by
  simp only [ev, Option.some.injEq, Prod.mk.injEq] at he
  obtain ⟨rfl, rfl⟩ := he
  exact wpAny_Constant_bool ⟨g, .refl i, _, rfl, Is.bool⟩
theorem SndE.noneC {k : Nat} {pos : Pos} : SndE W cx (.Constant .none k pos) (.lit .none) := fun _ A s g σ env ρ xs σ' rm i eo he => by
  simp only [ev, Option.some.injEq, Prod.mk.injEq] at he
  obtain ⟨rfl, rfl⟩ := he
  exact wpAny_Constant_none ⟨g, .refl i, _, rfl, Is.none⟩
theorem kindOf_eq {G : Cfg} {h : Heap} {env : Env} (eo : EnvOk G cx κ g h env ρ) (x : Str) : env.kindOf x = cx.kindOf x := by
  unfold Env.kindOf Cx.kindOf; rw [eo.sc]
theorem env_fn {G : Cfg} {h : Heap} {env : Env} (eo : EnvOk G cx κ g h env ρ) : env.scope.kind = .function := by rw [eo.sc]; exact eo.kind
/-- a name is loaded -/
theorem load_run (i : Inv W.G g σ s) {env : Env} (eo : EnvOk W.G cx κ g s.heap env ρ) {x : Str} {j : Nat} {b : Bnd} {pos : Pos} {Q : Value → Shared → Prop} {E : Value → Shared → Prop}
    (hk : cx.var x = true) (hj : cx.Γ.lookup x = some j) (hb : ρ[j]? = some b) (hn : b ≠ .un) (hd : (x == ("__debug__" : Str)) = false) (hc : (x == ("__classdict__" : Str)) = false)
    (q : ∀ v, BndIs W.G κ j g s.heap v b → Q v s) : wpAny (model W.G.prog W.G.w) A (eval (.Name x pos) env) Q E s := by
  have fn := env_fn eo
  have ko := kindOf_eq eo x
  unfold Cx.var at hk
  simp only [Bool.or_eq_true, beq_iff_eq] at hk
  rcases hk with (hk | hk) | hk
  · obtain ⟨m, hns, hv⟩ := eo.vars
    obtain ⟨v, e, r⟩ := hv x j b hj hb hn hk
    exact wpAny_Name (wpAny_loadName_local fn (ko.trans hk) hns e (q v r)) hd
  · obtain ⟨a, v, e, hc', r⟩ := eo.cells x j b hj hb hn (.inl hk)
    exact wpAny_Name (wpAny_loadName_cell fn (ko.trans hk) e hc' (q v r)) hd
  · obtain ⟨a, v, e, hc', r⟩ := eo.cells x j b hj hb hn (.inr hk)
    exact wpAny_Name (wpAny_loadName_free fn (ko.trans hk) e hc' (q v r) hc) hd
theorem SndE.var {x : Str} {j : Nat} {pos : Pos} (hk : cx.var x = true) (hj : cx.Γ.lookup x = some j) (hd : (x == ("__debug__" : Str)) = false := by decide +kernel) (hc : (x == ("__classdict__" : Str)) = false := by decide +kernel) :
    SndE W cx (.Name x pos) (.loc j) := fun _ A s g σ env ρ xs σ' rm i eo he => by
  simp only [ev] at he
  split at he
  · rename_i y hy
    simp only [Option.some.injEq, Prod.mk.injEq] at he
    obtain ⟨rfl, rfl⟩ := he
    exact load_run i eo hk hj hy (by simp) hd hc fun v r => ⟨g, .refl i, _, rfl, r⟩
  · cases he
theorem Inv.keep₀ (i : Inv W.G g σ s) : ∀ b o, W.G.h₀.get? b = some o → s.heap.get? b = some o := i.base.trans i.sub
/-- a global of the text -/
theorem glob_run (hW : W.Ok) (i : Inv W.G g σ s) {env : Env} (eo : EnvOk W.G cx κ g s.heap env ρ) {x : Str} {v : Value} {pos : Pos} {Q : Value → Shared → Prop} {E : Value → Shared → Prop}
    (hk : cx.kindOf x = some .globalImplicit) (e : nsIn W.G.K mainGlobals x = some (some v)) (hd : (x == ("__debug__" : Str)) = false) (q : Q v s) : wpAny (model W.G.prog W.G.w) A (eval (.Name x pos) env) Q E s :=
  Name_function_global (env_fn eo) ((kindOf_eq eo x).trans hk) (loadGlobal_global (by rw [eo.glob]; exact hW.glb.ns.keeps i.keep₀) (mg_of hW.glb.kin hW.glb.ns e) q) hd
theorem bui_run (hW : W.Ok) (i : Inv W.G g σ s) {env : Env} (eo : EnvOk W.G cx κ g s.heap env ρ) {x : Str} {v : Value} {pos : Pos} {Q : Value → Shared → Prop} {E : Value → Shared → Prop}
    (hk : cx.kindOf x = some .globalImplicit) (e : nsIn W.G.K mainGlobals x = some none) (hv : bootBuiltins x = some v) (hn : x ≠ "__name__") (hd : (x == ("__debug__" : Str)) = false) (q : Q v s) :
    wpAny (model W.G.prog W.G.w) A (eval (.Name x pos) env) Q E s :=
  Name_function_global (env_fn eo) ((kindOf_eq eo x).trans hk) (loadGlobal_builtin (by rw [eo.glob]; exact hW.glb.ns.keeps i.keep₀) (mg_none_of hW.glb.kin hW.glb.ns e) (by rw [eo.bui]; exact hW.glb.nb.keeps i.keep₀) ((hW.glb.bui x hn).trans hv) q) hd
theorem SndE.glob (hW : W.Ok) {x : Str} {v : Value} {d : PyData} {pos : Pos} (hk : cx.kindOf x = some .globalImplicit) (e : nsIn W.G.K mainGlobals x = some (some v)) (hi : Is W.G.h₀ v d) (hd : (x == ("__debug__" : Str)) = false := by decide +kernel) :
    SndE W cx (.Name x pos) (.lit d) := fun _ A s g σ env ρ xs σ' rm i eo he => by
  simp only [ev, Option.some.injEq, Prod.mk.injEq] at he
  obtain ⟨rfl, rfl⟩ := he
  exact glob_run hW i eo hk e hd ⟨g, .refl i, _, rfl, hi.mono i.base⟩

/-! rows -/
theorem SndEs.nil : SndEs W cx [] .nil := fun _ A s g σ env ρ xs σ' pos rm i eo he => by
  simp only [ev, Option.some.injEq, Prod.mk.injEq] at he
  obtain ⟨rfl, rfl⟩ := he
  exact Calls.spliced_nil ⟨g, .refl i, trivial⟩
noncomputable def notStar : Expr → Bool
  | .Starred .. => false
  | _ => true
theorem star_of {a : Expr} {as : List Expr} {env : Env} (h : notStar a = true) : starEach (a :: as) env = (false, eval a env) :: starEach as env := by
  cases a <;> first | rfl | cases h
theorem SndEs.cons {a : Expr} {as : List Expr} {e es : E} (h : SndE W cx a e) (hs : SndEs W cx as es) (hn : notStar a = true := by rfl) : SndEs W cx (a :: as) (.cons e es) := fun _ A s g σ env ρ xs σ' pos rm i eo he => by
  simp only [ev, Option.bind_eq_some_iff] at he
  obtain ⟨⟨x, σ₁⟩, h1, ⟨ys, σ₂⟩, h2, he⟩ := he
  simp only [Option.some.injEq, Prod.mk.injEq] at he
  obtain ⟨rfl, rfl⟩ := he
  refine spliced_more ?_ (star_of hn)
  refine (h.one rm i eo h1).use fun v s₁ g₁ st q => ?_
  refine wpAny_mono (hs A s₁ g₁ σ₁ env ρ ys σ₂ pos rm st.inv (eo.step st) h2) ?_ fun _ _ f => f
  rintro vs s₂ ⟨g₂, st₂, r⟩
  exact ⟨g₂, st.trans st₂, IsV.mono q st₂.grow, r⟩
theorem SndE.tup {as : List Expr} {es : E} {k : Nat} {pos : Pos} (hs : SndEs W cx as es) : SndE W cx (.Tuple as k pos) (.tup es) := fun _ A s g σ env ρ xs σ' rm i eo he => by
  simp only [ev, Option.bind_eq_some_iff] at he
  obtain ⟨⟨ys, σ₁⟩, h1, ds, h2, d, h3, he⟩ := he
  simp only [Option.some.injEq, Prod.mk.injEq] at he
  obtain ⟨rfl, rfl⟩ := he
  obtain ⟨rfl, hl⟩ := mkT_eq h3
  refine wpAny_Tuple ((hs A s g σ env ρ ys σ₁ pos rm i eo h1).use fun vs s₁ g₁ st q => ?_)
  have hI := q.datas h2
  refine ⟨lim_line (by rw [hI.length]; exact hl), ?_⟩
  obtain ⟨g₂, st₂, r⟩ := Stp.pushTup (tk := s₁.toks) st.inv hI
  exact ⟨g₂, st.trans st₂, _, rfl, r⟩
theorem SndE.lst {as : List Expr} {es : E} {pos : Pos} (hs : SndEs W cx as es) : SndE W cx (.List as pos) (.lst es) := fun _ A s g σ env ρ xs σ' rm i eo he => by
  simp only [ev, Option.bind_eq_some_iff] at he
  obtain ⟨⟨ys, σ₁⟩, h1, ds, h2, d, h3, he⟩ := he
  simp only [Option.some.injEq, Prod.mk.injEq] at he
  obtain ⟨rfl, rfl⟩ := he
  obtain ⟨rfl, hl⟩ := mkL_eq h3
  refine wpAny_List ((hs A s g σ env ρ ys σ₁ pos rm i eo h1).use fun vs s₁ g₁ st q => ?_)
  have hI := q.datas h2
  refine ⟨lim_line (by rw [hI.length]; exact hl), ?_⟩
  obtain ⟨g₂, st₂, r⟩ := Stp.pushLst (tk := s₁.toks) st.inv hI
  exact ⟨g₂, st.trans st₂, _, rfl, r⟩

/-! operators -/
theorem SndE.bin {l r : Expr} {a b : E} {o : BOp} {pos : Pos} (ha : SndE W cx l a) (hb : SndE W cx r b) : SndE W cx (.BinOp l (bopOf o) r pos) (.bin o a b) := fun _ A s g σ env ρ xs σ' rm i eo he => by
  simp only [ev, Option.bind_eq_some_iff] at he
  obtain ⟨⟨x, σ₁⟩, h1, ⟨y, σ₂⟩, h2, d, h3, he⟩ := he
  simp only [Option.some.injEq, Prod.mk.injEq] at he
  obtain ⟨rfl, rfl⟩ := he
  refine wpAny_BinOp ((ha.oneD rm i eo h1).use fun v s₁ g₁ st q => ?_)
  refine (hb.oneD rm st.inv (eo.step st) h2).use fun u s₂ g₂ st₂ q₂ => ?_
  refine (bin_run (A := A) st₂.inv (q.mono st₂.grow) q₂ h3).use fun w s₃ g₃ st₃ q₃ => ?_
  exact ⟨g₃, st.trans (st₂.trans st₃), _, rfl, q₃⟩
theorem cmp_go {l r : Expr} {a b : E} {o : COp} (ha : SndE W cx l a) (hb : SndE W cx r b) {env : Env} {xs : List V} (rm : Room A W.n) (i : Inv W.G g σ s) (eo : EnvOk W.G cx κ g s.heap env ρ) (he : ev W.glo W.R (.cmp o a b) ρ σ = some (xs, σ')) {Q : Value → Shared → Prop}
    (q : ∀ t s' g', Stp W.G s g σ' s' g' → xs = [.d (.bool t)] → Q (.bool t) s') :
    wpAny (model W.G.prog W.G.w) A (eval l env) (fun u s₁ => wpAny (model W.G.prog W.G.w) A (eval r env) (fun v s₂ => wpAny (model W.G.prog W.G.w) A (compareOp (copOf o) u v) Q (fun _ _ => False) s₂) (fun _ _ => False) s₁) (fun _ _ => False) s := by
  simp only [ev, Option.bind_eq_some_iff] at he
  obtain ⟨⟨x, σ₁⟩, h1, ⟨y, σ₂⟩, h2, t, h3, he⟩ := he
  simp only [Option.some.injEq, Prod.mk.injEq] at he
  obtain ⟨rfl, rfl⟩ := he
  refine (ha.oneD rm i eo h1).use fun v s₁ g₁ st p => ?_
  refine (hb.oneD rm st.inv (eo.step st) h2).use fun u s₂ g₂ st₂ p₂ => ?_
  refine (cmp_run (A := A) st₂.inv rm (p.mono st₂.grow) p₂ h3).use fun w s₃ g₃ st₃ p₃ => ?_
  obtain rfl := p₃.bool_inv
  exact q t s₃ g₃ (st.trans (st₂.trans st₃)) rfl
theorem SndE.cmp {l r : Expr} {a b : E} {o : COp} {pos : Pos} (ha : SndE W cx l a) (hb : SndE W cx r b) (hm : behindInMarks (copOf o) r = false := by with_unfolding_all rfl) : SndE W cx (.Compare l [copOf o] [r] pos) (.cmp o a b) := fun _ A s g σ env ρ xs σ' rm i eo he =>
  wpAny_Compare1 (cmp_go ha hb rm i eo he fun t s' g' st e => ⟨g', st, _, e, Is.bool⟩) hm
theorem SndB.cmp {l r : Expr} {a b : E} {o : COp} {pos : Pos} (ha : SndE W cx l a) (hb : SndE W cx r b) (hm : behindInMarks (copOf o) r = false := by with_unfolding_all rfl) : SndB W cx (.Compare l [copOf o] [r] pos) (.cmp o a b) := fun _ A s g σ env ρ b σ' rm i eo he =>
  wpAny_isTrue_Compare1 (cmp_go ha hb rm i eo (oneB_eq he) fun t s' g' st e => wpAny_truthy_bool ⟨g', st, by cases e; rfl⟩) hm
theorem SndB.plain {a : Expr} {e : E} (h : SndE W cx a e) (hp : ∀ env whole, isTrue a env whole = (do let v ← whole; standAt a.pos; holding [v] (truthy v)) := by intro _ _; rfl) : SndB W cx a e := fun _ A s g σ env ρ b σ' rm i eo he => by
  refine isTrue_plain ((h.oneB rm i eo he).use fun v s₁ g₁ st q => ?_) (hp _ _)
  rw [q]
  exact wpAny_truthy_bool ⟨g₁, st, rfl⟩
/-! tests -/
theorem bind_B {r : Option (List V × Sg)} {f : Bool × Sg → Option (List V × Sg)} {ys : List V} {σ' : Sg} (h : (oneB r).bind f = some (ys, σ')) : ∃ b σ₁, oneB r = some (b, σ₁) ∧ f (b, σ₁) = some (ys, σ') := by
  obtain ⟨⟨b, σ₁⟩, h1, h2⟩ := Option.bind_eq_some_iff.mp h
  exact ⟨b, σ₁, h1, h2⟩
theorem oneB_some {b : Bool} {σ : Sg} : Mine.oneB (some ([.d (.bool b)], σ)) = some (b, σ) := rfl
theorem SndB.notE {x : Expr} {e : E} {pos : Pos} (h : SndB W cx x e) : SndB W cx (.UnaryOp .Not x pos) (.notE e) := fun _ A s g σ env ρ b σ' rm i eo he => by
  have he := oneB_eq he
  simp only [ev] at he
  obtain ⟨c, σ₁, h1, h2⟩ := bind_B he
  simp only [Option.some.injEq, Prod.mk.injEq, List.cons.injEq, V.d.injEq, PyData.bool.injEq, and_true] at h2
  obtain ⟨rfl, rfl⟩ := h2
  exact isTrue_not ((h A s g σ env ρ c σ₁ rm i eo h1).use fun c' s₁ g₁ st q => ⟨g₁, st, by rw [q]⟩)
theorem SndE.notE {x : Expr} {e : E} {pos : Pos} (h : SndE W cx x e) : SndE W cx (.UnaryOp .Not x pos) (.notE e) := fun _ A s g σ env ρ xs σ' rm i eo he => by
  simp only [ev] at he
  obtain ⟨c, σ₁, h1, h2⟩ := bind_B he
  simp only [Option.some.injEq, Prod.mk.injEq] at h2
  obtain ⟨rfl, rfl⟩ := h2
  refine wpAny_UnaryOp ((h.oneB rm i eo h1).use fun v s₁ g₁ st q => ?_)
  rw [q]
  exact not_of (wpAny_truthy_bool ⟨g₁, st, _, rfl, Is.bool⟩)
theorem SndE.and1 {o : BoolOp} {x : Expr} {e : E} {pos : Pos} (h : SndE W cx x e) : SndE W cx (.BoolOp o [x] pos) e := fun _ A s g σ env ρ xs σ' rm i eo he => BoolOp_one (h A s g σ env ρ xs σ' rm i eo he)
theorem SndE.and {x y : Expr} {rest : List Expr} {a b : E} {pos : Pos} (ha : SndE W cx x a) (hb : SndE W cx (.BoolOp .And (y :: rest) pos) b) : SndE W cx (.BoolOp .And (x :: y :: rest) pos) (.andE a b) := fun _ A s g σ env ρ xs σ' rm i eo he => by
  simp only [ev] at he
  obtain ⟨c, σ₁, h1, h2⟩ := bind_B he
  refine BoolOp_and ((ha.oneB rm i eo h1).use fun v s₁ g₁ st q => ?_)
  rw [q]
  refine wpAny_truthy_bool ?_
  cases c with
  | true =>
    simp only [if_true] at h2 ⊢
    obtain ⟨c', σ₂, h3, h4⟩ := bind_B h2
    simp only [Option.some.injEq, Prod.mk.injEq] at h4
    obtain ⟨rfl, rfl⟩ := h4
    exact Runs.after st ((hb.oneB rm st.inv (eo.step st) h3).mono fun r g' q => ⟨_, rfl, by rw [q]; exact Is.bool⟩)
  | false =>
    simp only [Bool.false_eq_true, if_false, Option.some.injEq, Prod.mk.injEq] at h2 ⊢
    obtain ⟨rfl, rfl⟩ := h2
    exact ⟨g₁, st, _, rfl, Is.bool⟩
theorem SndE.or {x y : Expr} {rest : List Expr} {a b : E} {pos : Pos} (ha : SndE W cx x a) (hb : SndE W cx (.BoolOp .Or (y :: rest) pos) b) : SndE W cx (.BoolOp .Or (x :: y :: rest) pos) (.orE a b) := fun _ A s g σ env ρ xs σ' rm i eo he => by
  simp only [ev] at he
  obtain ⟨c, σ₁, h1, h2⟩ := bind_B he
  refine BoolOp_or ((ha.oneB rm i eo h1).use fun v s₁ g₁ st q => ?_)
  rw [q]
  refine wpAny_truthy_bool ?_
  cases c with
  | false =>
    simp only [Bool.false_eq_true, if_false] at h2 ⊢
    obtain ⟨c', σ₂, h3, h4⟩ := bind_B h2
    simp only [Option.some.injEq, Prod.mk.injEq] at h4
    obtain ⟨rfl, rfl⟩ := h4
    exact Runs.after st ((hb.oneB rm st.inv (eo.step st) h3).mono fun r g' q => ⟨_, rfl, by rw [q]; exact Is.bool⟩)
  | true =>
    simp only [if_true, Option.some.injEq, Prod.mk.injEq] at h2 ⊢
    obtain ⟨rfl, rfl⟩ := h2
    exact ⟨g₁, st, _, rfl, Is.bool⟩
theorem SndB.and1 {x : Expr} {a : E} {pos : Pos} (ha : SndB W cx x a) : SndB W cx (.BoolOp .And [x] pos) a := fun _ A s g σ env ρ b σ' rm i eo he => by
  refine isTrue_and ((ha A s g σ env ρ b σ' rm i eo he).use fun c s₁ g₁ st q => ?_)
  rw [q]
  cases b with
  | true => exact isTrue_and_nil ⟨g₁, st, rfl⟩
  | false => exact ⟨g₁, st, rfl⟩
theorem SndB.or1 {x : Expr} {a : E} {pos : Pos} (ha : SndB W cx x a) : SndB W cx (.BoolOp .Or [x] pos) a := fun _ A s g σ env ρ b σ' rm i eo he => by
  refine isTrue_or ((ha A s g σ env ρ b σ' rm i eo he).use fun c s₁ g₁ st q => ?_)
  rw [q]
  cases b with
  | false => exact isTrue_or_nil ⟨g₁, st, rfl⟩
  | true => exact ⟨g₁, st, rfl⟩
theorem SndB.and {x y : Expr} {rest : List Expr} {a b : E} {pos : Pos} (ha : SndB W cx x a) (hb : SndB W cx (.BoolOp .And (y :: rest) pos) b) : SndB W cx (.BoolOp .And (x :: y :: rest) pos) (.andE a b) := fun _ A s g σ env ρ t σ' rm i eo he => by
  have he := oneB_eq he
  simp only [ev] at he
  obtain ⟨c, σ₁, h1, h2⟩ := bind_B he
  refine isTrue_and ((ha A s g σ env ρ c σ₁ rm i eo h1).use fun v s₁ g₁ st q => ?_)
  rw [q]
  cases c with
  | true =>
    simp only [if_true] at h2 ⊢
    obtain ⟨c', σ₂, h3, h4⟩ := bind_B h2
    simp only [Option.some.injEq, Prod.mk.injEq, List.cons.injEq, V.d.injEq, PyData.bool.injEq, and_true] at h4
    obtain ⟨rfl, rfl⟩ := h4
    exact Runs.after st (hb A s₁ g₁ σ₁ env ρ c' σ₂ rm st.inv (eo.step st) h3)
  | false =>
    simp only [Bool.false_eq_true, if_false, Option.some.injEq, Prod.mk.injEq, List.cons.injEq, V.d.injEq, PyData.bool.injEq, and_true] at h2 ⊢
    obtain ⟨rfl, rfl⟩ := h2
    exact ⟨g₁, st, rfl⟩
theorem SndB.or {x y : Expr} {rest : List Expr} {a b : E} {pos : Pos} (ha : SndB W cx x a) (hb : SndB W cx (.BoolOp .Or (y :: rest) pos) b) : SndB W cx (.BoolOp .Or (x :: y :: rest) pos) (.orE a b) := fun _ A s g σ env ρ t σ' rm i eo he => by
  have he := oneB_eq he
  simp only [ev] at he
  obtain ⟨c, σ₁, h1, h2⟩ := bind_B he
  refine isTrue_or ((ha A s g σ env ρ c σ₁ rm i eo h1).use fun v s₁ g₁ st q => ?_)
  rw [q]
  cases c with
  | false =>
    simp only [Bool.false_eq_true, if_false] at h2 ⊢
    obtain ⟨c', σ₂, h3, h4⟩ := bind_B h2
    simp only [Option.some.injEq, Prod.mk.injEq, List.cons.injEq, V.d.injEq, PyData.bool.injEq, and_true] at h4
    obtain ⟨rfl, rfl⟩ := h4
    exact Runs.after st (hb A s₁ g₁ σ₁ env ρ c' σ₂ rm st.inv (eo.step st) h3)
  | true =>
    simp only [if_true, Option.some.injEq, Prod.mk.injEq, List.cons.injEq, V.d.injEq, PyData.bool.injEq, and_true] at h2 ⊢
    obtain ⟨rfl, rfl⟩ := h2
    exact ⟨g₁, st, rfl⟩
theorem SndE.ite {c x y : Expr} {a b d : E} {pos : Pos} (hc : SndB W cx c a) (hx : SndE W cx x b) (hy : SndE W cx y d) : SndE W cx (.IfExp c x y pos) (.ite a b d) := fun _ A s g σ env ρ xs σ' rm i eo he => by
  simp only [ev] at he
  obtain ⟨t, σ₁, h1, h2⟩ := bind_B he
  refine wpAny_IfExp ((hc A s g σ env ρ t σ₁ rm i eo h1).use fun t' s₁ g₁ st q => ?_)
  rw [q]
  cases t with
  | true =>
    simp only [if_true, Option.bind_eq_some_iff] at h2 ⊢
    obtain ⟨⟨v, σ₂⟩, h3, h4⟩ := h2
    simp only [Option.some.injEq, Prod.mk.injEq] at h4
    obtain ⟨rfl, rfl⟩ := h4
    exact Runs.after st ((hx.one rm st.inv (eo.step st) h3).mono fun r g' q => ⟨_, rfl, q⟩)
  | false =>
    simp only [Bool.false_eq_true, if_false, Option.bind_eq_some_iff] at h2 ⊢
    obtain ⟨⟨v, σ₂⟩, h3, h4⟩ := h2
    simp only [Option.some.injEq, Prod.mk.injEq] at h4
    obtain ⟨rfl, rfl⟩ := h4
    exact Runs.after st ((hy.one rm st.inv (eo.step st) h3).mono fun r g' q => ⟨_, rfl, q⟩)
theorem SndE.neg {i : Int} {k : Nat} {p pos : Pos} : SndE W cx (.UnaryOp .USub (.Constant (.int i) k p) pos) (.lit (.int (-i))) := fun _ A s g σ env ρ xs σ' rm i eo he => by
  simp only [ev, Option.some.injEq, Prod.mk.injEq] at he
  obtain ⟨rfl, rfl⟩ := he
  exact wpAny_UnaryOp (wpAny_Constant_int (PyProof.Rows.neg_int ⟨g, .tok i _, _, rfl, Is.int⟩))
end
end Mine

namespace Mine
open PySem PySem.W PyProof.Rows PySem.Calls

section
variable {g : Heap} {vs : List Value} {ds : List PyData}
theorem IsAll.drop : ∀ {vs : List Value} {ds : List PyData} (n : Nat), IsAll g vs ds → IsAll g (vs.drop n) (ds.drop n)
  | _, _, 0, h => h
  | vs, [], n + 1, h => by rw [h.nil_inv]; exact .nil
  | vs, d :: ds, n + 1, h => by
    obtain ⟨v, ws, rfl, _, k⟩ := h.cons_inv
    exact k.drop n
theorem IsAll.take : ∀ {vs : List Value} {ds : List PyData} (n : Nat), IsAll g vs ds → IsAll g (vs.take n) (ds.take n)
  | _, _, 0, h => .nil
  | vs, [], n + 1, h => by rw [h.nil_inv]; exact .nil
  | vs, d :: ds, n + 1, h => by
    obtain ⟨v, ws, rfl, a, k⟩ := h.cons_inv
    exact .cons a (k.take n)
theorem IsAll.reverse : ∀ {vs : List Value} {ds : List PyData}, IsAll g vs ds → IsAll g vs.reverse ds.reverse
  | vs, [], h => by rw [h.nil_inv]; exact .nil
  | vs, d :: ds, h => by
    obtain ⟨v, ws, rfl, a, k⟩ := h.cons_inv
    rw [List.reverse_cons, List.reverse_cons]
    exact k.reverse.append (.one a)
theorem IsAll.dropLast (h : IsAll g vs ds) : IsAll g vs.dropLast ds.dropLast := by
  rw [List.dropLast_eq_take, List.dropLast_eq_take, h.length]; exact h.take _
end

/-! the shared dict -/
section
variable {W : Wd} {cx : Cx} {A : Around} {s : Shared} {g : Heap} {σ σ' : Sg} {ρ : List Bnd} {κ : Anc}
theorem pairs_at : ∀ {kvs : List (Str × Value)} {σ : Sg} {g : Heap}, kvs.map (·.1) = σ.map (·.1) → IsAll g (kvs.map (·.2)) (σ.map (·.2)) → ∀ {k : Str} {d : PyData}, σ.lookup k = some d → ∃ v, valueAt kvs k = some v ∧ Is g v d
  | [], [], _, _, _, k, d, h => by simp at h
  | [], _ :: _, _, e, _, _, _, _ => by simp at e
  | _ :: _, [], _, e, _, _, _, _ => by simp at e
  | (a, v) :: kvs, (b, x) :: σ, g, e, hi, k, d, h => by
    simp only [List.map_cons, List.cons.injEq] at e hi
    obtain ⟨rfl, e⟩ := e
    rw [List.lookup_cons] at h
    unfold valueAt
    rw [List.find?_cons]
    by_cases hk : k = a
    · subst hk
      simp only [beq_self_eq_true, Option.some.injEq] at h
      subst h
      exact ⟨v, by simp, hi.head⟩
    · have h1 : (k == a) = false := by simpa using hk
      have h2 : (decide (a = k)) = false := by simpa using fun q => hk q.symm
      rw [h1] at h
      simp only [h2]
      exact pairs_at e hi.tail h
theorem pairs_set : ∀ {kvs : List (Str × Value)} {σ : Sg} {g : Heap}, kvs.map (·.1) = σ.map (·.1) → IsAll g (kvs.map (·.2)) (σ.map (·.2)) → ∀ {k : Str} {v : Value} {d : PyData}, Is g v d →
    (kvs.map fun kv => if kv.1 = k then (kv.1, v) else kv).map (·.1) = (σ.map fun p => if p.1 = k then (k, d) else p).map (·.1) ∧
    IsAll g ((kvs.map fun kv => if kv.1 = k then (kv.1, v) else kv).map (·.2)) ((σ.map fun p => if p.1 = k then (k, d) else p).map (·.2))
  | [], [], _, _, h, k, v, d, hv => ⟨rfl, .nil⟩
  | [], _ :: _, _, e, _, _, _, _, _ => by simp at e
  | _ :: _, [], _, e, _, _, _, _, _ => by simp at e
  | (a, u) :: kvs, (b, x) :: σ, g, e, hi, k, v, d, hv => by
    simp only [List.map_cons, List.cons.injEq] at e
    simp only [List.map_cons] at hi
    obtain ⟨rfl, e⟩ := e
    obtain ⟨i1, i2⟩ := pairs_set e hi.tail (k := k) hv
    simp only [List.map_cons, List.cons.injEq]
    by_cases hk : a = k
    · subst hk
      simp only [if_true]
      exact ⟨⟨trivial, i1⟩, .cons hv i2⟩
    · simp only [hk, if_false]
      exact ⟨⟨trivial, i1⟩, .cons hi.head i2⟩
theorem feed_get (i : Inv W.G g σ s) {k : Str} {d : PyData} {t : Tok} (h : σ.lookup k = some d) : Runs W.G A s g σ (getItem (.ref W.G.c) (.str k t)) (fun r g' => Is g' r d) := by
  obtain ⟨kvs, hd, e, hi, hl⟩ := i.shr
  obtain ⟨v, hv, q⟩ := pairs_at e hi h
  exact wpAny_getItem_of (strKind_is W.G.prog W.G.w k t) hd.mapOf hv ⟨g, .tok i _, q⟩
theorem feed_sub (i : Inv W.G g σ s) {value slice : Expr} (hs : plainSub slice) {k : Str} {d : PyData} {t : Tok} (h : σ.lookup k = some d) :
    Runs W.G A s g σ (subscriptTail value slice (.ref W.G.c) (.str k t)) (fun r g' => Is g' r d) := by
  obtain ⟨kvs, hd, e, hi, hl⟩ := i.shr
  exact tail_any hd.typeIs slot_dict_getitem.lookup (feed_get i h) (hs _ _)
/-! item -/
theorem idx_fits {n : Nat} {k : Int} (h : intOk k = true) : -(2 ^ 63) ≤ k ∧ k < 2 ^ 63 := by
  simp only [intOk, Bool.and_eq_true, decide_eq_true_eq] at h; (first | lia | omega)
theorem SndE.item {v sl : Expr} {a b : E} {pos : Pos} (ha : SndE W cx v a) (hb : SndE W cx sl b) (hs : plainSub sl := by intro _ _; rfl) : SndE W cx (.Subscript v sl pos) (.item a b) := fun _ A s g σ env ρ xs σ' rm i eo he => by
  simp only [ev, Option.bind_eq_some_iff] at he
  obtain ⟨⟨x, σ₁⟩, h1, ⟨y, σ₂⟩, h2, he⟩ := he
  refine Subscript_ ((ha.one rm i eo h1).use fun o s₁ g₁ st q => ?_)
  refine (hb.oneD rm st.inv (eo.step st) h2).use fun u s₂ g₂ st₂ q₂ => ?_
  dsimp only at he
  split at he
  · split at he
    · rename_i x' k hk
      obtain ⟨d, h3, h4⟩ := Option.bind_eq_some_iff.mp he
      simp only [Option.some.injEq, Prod.mk.injEq] at h4
      obtain ⟨rfl, rfl⟩ := h4
      exact Runs.after (st.trans st₂) ((item_run hs st₂.inv (IsV.mono (x := .d x') q st₂.grow) q₂ h3 (idx_fits (n := 0) hk)).mono fun r g' q => ⟨_, rfl, q⟩)
    · cases he
  · rename_i k hk
    obtain ⟨d, h3, h4⟩ := Option.bind_eq_some_iff.mp he
    simp only [Option.some.injEq, Prod.mk.injEq] at h4
    obtain ⟨rfl, rfl⟩ := h4
    obtain ⟨t, rfl⟩ := q₂.str_inv
    obtain rfl : o = .ref W.G.c := q
    exact Runs.after (st.trans st₂) ((feed_sub st₂.inv hs h3).mono fun r g' q => ⟨_, rfl, q⟩)
  · cases he

/-! slices -/
inductive PartE : Option Expr → Option Int → Prop
  | none : PartE Option.none Option.none
  | nat {i : Int} {k : Nat} {p : Pos} : PartE (some (.Constant (.int i) k p)) (some i)
  | neg {i : Int} {k : Nat} {p q : Pos} : PartE (some (.UnaryOp .USub (.Constant (.int i) k p) q)) (some (-i))
theorem part_run {x : Option Expr} {k : Option Int} (h : PartE x k) {env : Env} {Q : Value → Shared → Prop} {E : Value → Shared → Prop} (q : ∀ v tk, IsPart v k → Q v { s with toks := tk }) : wpAny (model W.G.prog W.G.w) A (evalPart x env) Q E s := by
  cases h with
  | none => exact wpAny_pure (q _ s.toks .none)
  | @nat i k p => exact wpAny_Constant_int (k := k) (pos := p) (q _ _ (.int _ _))
  | @neg i k p r => exact wpAny_UnaryOp (pos := r) (wpAny_Constant_int (k := k) (pos := p) (PyProof.Rows.neg_int (q _ _ (.int _ _))))
noncomputable def partsOf : SK → Option Int × Option Int × Option Int
  | .from1 => (some 1, none, none)
  | .butLast => (none, some (-1), none)
  | .revFrom2 => (some (-2), none, some (-1))
  | .upto n => (none, some n, none)
  | .rev => (none, none, some (-1))
  | .rev0 => (none, some 0, some (-1))
theorem slice_run {lo hi st : Option Expr} {k : SK} {p : Pos} (h1 : PartE lo (partsOf k).1) (h2 : PartE hi (partsOf k).2.1) (h3 : PartE st (partsOf k).2.2) {env : Env} {Q : Value → Shared → Prop} {E : Value → Shared → Prop}
    (q : ∀ vl vu vs tk, IsPart vl (partsOf k).1 → IsPart vu (partsOf k).2.1 → IsPart vs (partsOf k).2.2 → Q (.ref s.heap.objs.size) { s with heap := s.heap.push { cls := .type "slice", data := .fields #[vl, vu, vs] }, toks := tk }) :
    wpAny (model W.G.prog W.G.w) A (eval (.Slice lo hi st p) env) Q E s :=
  wpAny_Slice (part_run h1 fun vl t1 p1 => part_run h2 fun vu t2 p2 => part_run h3 fun vs t3 p3 => q vl vu vs t3 p1 p2 p3)

theorem down_run {α : Type} (xs : Array α) (m : Nat) : ((List.range m).map fun k => m - 1 - k).filterMap (xs[·]?) = (xs.toList.take m).reverse := by
  have e : (List.range m).map (fun k => m - 1 - k) = (List.range m).reverse := by
    apply List.ext_getElem
    · simp
    · intro i h1 h2
      rw [List.getElem_map, List.getElem_reverse]
      simp
  have h := pick_run xs 0 m
  have e2 : (List.range m).map (0 + ·) = List.range m := by
    rw [show ((0 + ·) : Nat → Nat) = id from funext fun k => Nat.zero_add k, List.map_id]
  rw [e2, List.drop_zero] at h
  rw [e, List.filterMap_reverse, h]
theorem down_range (m : Nat) (a : Int) (ha : a = (m : Int) - 1) : sliceRange a (-1) (-1) = (List.range m).map fun k => m - 1 - k := by
  unfold sliceRange
  have h1 : ¬ ((-1 : Int) > 0) := by decide
  have e : (if (-1 : Int) > 0 then (if a < -1 then (-1 - a + -1 - 1) / -1 else 0) else (if a > -1 then (a - -1 - -1 - 1) / (- -1) else 0)).toNat = m := by
    simp only [h1, if_false]
    split
    · rw [show (- -1 : Int) = 1 by decide, Int.ediv_one]; (first | lia | omega)
    · (first | lia | omega)
  simp only [e]
  apply List.map_congr_left
  intro k hk
  have := List.mem_range.mp hk
  (first | lia | omega)
theorem pick_rev (items : Array Value) : slicePick items none none (some (-1)) = items.toList.reverse.toArray := by
  unfold slicePick
  have hb : sliceBounds none none (some (-1)) items.size = ((items.size : Int) - 1, -1, -1) := by
    simp only [sliceBounds, Option.getD_some, show ¬ ((-1 : Int) > 0) by decide, if_false]
  rw [hb, down_range items.size _ rfl, down_run]
  rw [List.take_of_length_le (by simp)]
theorem pick_rev2 (items : Array Value) : slicePick items (some (-2)) none (some (-1)) = items.toList.dropLast.reverse.toArray := by
  unfold slicePick
  have hb : sliceBounds (some (-2)) none (some (-1)) items.size = (((items.size - 1 : Nat) : Int) - 1, -1, -1) := by
    simp only [sliceBounds, Option.getD_some, show ¬ ((-1 : Int) > 0) by decide, if_false, show (-2 : Int) < 0 by decide, if_true, Prod.mk.injEq, and_true]
    (first | lia | omega)
  rw [hb, down_range (items.size - 1) _ rfl, down_run, List.dropLast_eq_take]
  simp
theorem slcL_all {g : Heap} {vs : Array Value} {xs : List PyData} (h : IsAll g vs.toList xs) {k : SK} (hk : k ≠ .butLast ∧ k ≠ .rev0) : IsAll g (slicePick vs (partsOf k).1 (partsOf k).2.1 (partsOf k).2.2).toList (slcL k xs) := by
  cases k with
  | from1 =>
    show IsAll g (slicePick vs (some (1 : Nat)) none none).toList _
    rw [slicePick_from']
    exact h.drop 1
  | upto n =>
    show IsAll g (slicePick vs none (some (n : Nat)) none).toList _
    rw [slicePick_upto']
    exact h.take n
  | revFrom2 =>
    show IsAll g (slicePick vs (some (-2)) none (some (-1))).toList _
    rw [pick_rev2]
    exact h.dropLast.reverse
  | rev =>
    show IsAll g (slicePick vs none none (some (-1))).toList _
    rw [pick_rev]
    exact h.reverse
  | butLast => exact absurd rfl hk.1
  | rev0 => exact absurd rfl hk.2
theorem step_ok (k : SK) : (partsOf k).2.2 ≠ some 0 := by cases k <;> simp [partsOf]

/-! tuples' slices -/
noncomputable def slPart (k : Option Int) (v : Value) : Prop := IsPart v k
theorem slPart_run {v : Value} {k : Option Int} (h : IsPart v k) {Q : Option Int → Shared → Prop} {E : Value → Shared → Prop} (q : Q k s) : wpAny (model W.G.prog W.G.w) A (Builtin.Slice.slicePartIndex v) Q E s := by
  cases h with
  | none => exact slicePart_none q
  | int => exact slicePart_int q
theorem sliceApplied_run {sl : Addr} {n : Nat} {vl vu vs : Value} {lo hi st : Option Int} (hs : s.heap.IsSliceOf sl vl vu vs) (pl : IsPart vl lo) (pu : IsPart vu hi) (ps : IsPart vs st) (h0 : st.getD 1 ≠ 0) {Q : Int × Int × Nat → Shared → Prop} {E : Value → Shared → Prop}
    (q : Q ((Builtin.Slice.sliceAdjust lo hi (st.getD 1) n).1, st.getD 1, Builtin.Slice.slicePlaces (Builtin.Slice.sliceAdjust lo hi (st.getD 1) n).1 (Builtin.Slice.sliceAdjust lo hi (st.getD 1) n).2 (st.getD 1)) s) :
    wpAny (model W.G.prog W.G.w) A (Builtin.Slice.sliceApplied (.ref sl) (pure (n : Int))) Q E s := by
  obtain ⟨os, hos, hcs, hds⟩ := id hs
  unfold Builtin.Slice.sliceApplied Builtin.Slice.sliceFields
  refine wpAny_bind (wpAny_bind (wpAny_field hos hds (x := vl) rfl (wpAny_bind (wpAny_field hos hds (x := vu) rfl (wpAny_bind (wpAny_field hos hds (x := vs) rfl (wpAny_pure ?_)))))))
  refine wpAny_bind (slPart_run ps ?_)
  rw [if_neg (by simpa using h0)]
  refine wpAny_bind (slPart_run pl (wpAny_bind (slPart_run pu (wpAny_bind (wpAny_pure ?_)))))
  exact wpAny_pure q
theorem tup_slice {t sl : Addr} {items : Array Value} {vl vu vs : Value} {lo hi st : Option Int} (ht : IsTup s.heap t items) (hs : s.heap.IsSliceOf sl vl vu vs) (pl : IsPart vl lo) (pu : IsPart vu hi) (ps : IsPart vs st) (h0 : st.getD 1 ≠ 0) {a k : Int} {n : Nat} {r : List Value}
    (h1 : (Builtin.Slice.sliceAdjust lo hi (st.getD 1) items.size).1 = a) (hk : st.getD 1 = k) (h2 : Builtin.Slice.slicePlaces (Builtin.Slice.sliceAdjust lo hi (st.getD 1) items.size).1 (Builtin.Slice.sliceAdjust lo hi (st.getD 1) items.size).2 (st.getD 1) = n)
    (hno : ¬ (a = 0 ∧ k = 1 ∧ n = items.size)) (hr : ((List.range n).filterMap fun (j : Nat) => items[(a + (j : Int) * k).toNat]?) = r) (hl : r.length ≤ sizeLine) {Q : Value → Shared → Prop} {E : Value → Shared → Prop}
    (h : Q (.ref s.heap.objs.size) { s with heap := s.heap.push { cls := .type "tuple", data := .seq r.toArray } }) :
    wpAny (model W.G.prog W.G.w) A (getItem (.ref t) (.ref sl)) Q E s := by
  have hdrop : sizeOk (.seq r.toArray) := by show r.toArray.size ≤ sizeLine; simpa using hl
  obtain ⟨os, hos, hcs, hds⟩ := id hs
  have hTs : s.TypeIs (.ref sl) "slice" := ⟨os, hos, hcs⟩
  unfold getItem
  try with_reducible refine wpAny_holding ?_
  first | refine wpAny_bind (wpAny_pure ?_) | skip
  refine wpAny_bind (wpAny_sequenceKey ht.typeIs (by decide) ?_)
  refine wpAny_bind (wpAny_callSpecial?_slot (name := Str.ofString "__getitem__") ht.typeIs slot_tuple_getitem
    (wpAny_call_entry slot_tuple_getitem ht.typeIs entry_tuple_getitem ?_ (args_tuple_getitem _ _)))
  show wpAny _ _ (Builtin.Tuple.tupleItemsOf (.ref t) >>= _) _ _ s
  refine wpAny_bind (tupleItemsOf_ ht ?_)
  refine wpAny_bind (wpAny_typeOf hTs ?_)
  rw [if_pos (by decide)]
  refine wpAny_bind (sliceApplied_run hs pl pu ps h0 ?_)
  rw [h1, hk] at *
  have hb : ¬ ((a == 0 && k == 1 && n == items.size) = true) := by simpa [and_assoc] using hno
  rw [h1] at h2
  rw [h2]
  show wpAny _ _ (if (a == 0 && k == 1 && n == items.size) = true then _ else _) _ _ s
  rw [if_neg hb, hr]
  first
    | exact wpAny_bind (m := Builtin.Tuple.tupleExact _) (wpAny_newObj_type (wpAny_pure ⟨_, rfl, wpAny_pure h⟩) hdrop)
    | exact wpAny_bind (m := Builtin.Tuple.tupleExact _) (wpAny_newObj_type (wpAny_bind (wpAny_pure (wpAny_pure ⟨_, rfl, wpAny_pure h⟩))) hdrop)
    | exact wpAny_bind (wpAny_bind (m := Builtin.Tuple.tupleExact _) (wpAny_newObj_type (wpAny_pure (wpAny_pure ⟨_, rfl, wpAny_pure h⟩)) hdrop))
    | exact wpAny_bind (wpAny_bind (m := Builtin.Tuple.tupleExact _) (wpAny_newObj_type (wpAny_pure ⟨_, rfl, wpAny_pure h⟩) hdrop))
end
end Mine

namespace Mine
open PySem PySem.W PyProof.Rows PySem.Calls

theorem filterMap_same {α β : Type} {f f' : α → Option β} : ∀ {l : List α}, (∀ x ∈ l, f x = f' x) → l.filterMap f = l.filterMap f'
  | [], _ => rfl
  | x :: l, h => by rw [List.filterMap_cons, List.filterMap_cons, h x (.head _), filterMap_same fun y hy => h y (.tail _ hy)]
section
variable {W : Wd} {cx : Cx} {A : Around} {s : Shared} {g : Heap} {σ σ' : Sg} {ρ : List Bnd} {κ : Anc}
noncomputable def slObj (vl vu vs : Value) : Obj := { cls := .type "slice", data := .fields #[vl, vu, vs] }
theorem Stp.slTup (i : Inv W.G g σ s) {vl vu vs : Value} {r : List Value} {xs : List PyData} {tk : Nat} (hr : IsAll g r xs) :
    ∃ g', Stp W.G s g σ { s with heap := (s.heap.push (slObj vl vu vs)).push { cls := .type "tuple", data := .seq r.toArray }, toks := tk } g' ∧ Is g' (.ref (s.heap.push (slObj vl vu vs)).objs.size) (.tuple xs) := by
  have hs := Heap.size_push s.heap (slObj vl vu vs)
  have := Stp.newSeq (T := "tuple") (tk := tk) (h' := (s.heap.push (slObj vl vu vs)).push { cls := .type "tuple", data := .seq r.toArray }) (a := (s.heap.push (slObj vl vu vs)).objs.size) (n := 0) i (.inl rfl)
    (fun b o e => Heap.get?_push_of_some _ (Heap.get?_push_of_some _ e)) (by
      rw [hs]; exact Heap.get?_none_of_le (Nat.le_succ _)) (Heap.get?_push_size _ rfl) hr
  rwa [if_pos rfl] at this
theorem Stp.slLst (i : Inv W.G g σ s) {vl vu vs : Value} {r : List Value} {xs : List PyData} {tk : Nat} (hr : IsAll g r xs) :
    ∃ g', Stp W.G s g σ { s with heap := (s.heap.push (slObj vl vu vs)).push { cls := .type "list", data := .seq r.toArray }, toks := tk } g' ∧ Is g' (.ref (s.heap.push (slObj vl vu vs)).objs.size) (.list xs) := by
  have hs := Heap.size_push s.heap (slObj vl vu vs)
  have := Stp.newSeq (T := "list") (tk := tk) (h' := (s.heap.push (slObj vl vu vs)).push { cls := .type "list", data := .seq r.toArray }) (a := (s.heap.push (slObj vl vu vs)).objs.size) (n := 0) i (.inr rfl)
    (fun b o e => Heap.get?_push_of_some _ (Heap.get?_push_of_some _ e)) (by
      rw [hs]; exact Heap.get?_none_of_le (Nat.le_succ _)) (Heap.get?_push_size _ rfl) hr
  rwa [if_neg (by decide)] at this

theorem slc_tup {k : SK} {xs : List PyData} {ys : PyData} {v : Value} {value sl : Expr} (i : Inv W.G g σ s) (hv : Is g v (.tuple xs)) (h : slcD k (.tuple xs) = some ys) {vl vu vs : Value}
    (pl : IsPart vl (partsOf k).1) (pu : IsPart vu (partsOf k).2.1) (ps : IsPart vs (partsOf k).2.2) (hs : ∀ o i, ∃ ops, subscripted sl false o i = operate ops (getItem o i)) {tk : Nat} :
    wpAny (model W.G.prog W.G.w) A (subscriptTail value sl v (.ref s.heap.objs.size)) (fun r s' => ∃ g', Stp W.G s g σ s' g' ∧ Is g' r ys) (fun _ _ => False) { s with heap := s.heap.push (slObj vl vu vs), toks := tk } := by
  obtain ⟨a, its, rfl, ht, r⟩ := hv.tup_at i
  have hl := r.length
  have ht' : IsTup (s.heap.push (slObj vl vu vs)) a its := by
    obtain ⟨o, ho, x⟩ := ht
    exact ⟨o, Heap.get?_push_of_some _ ho, x⟩
  have hsl : (s.heap.push (slObj vl vu vs)).IsSliceOf s.heap.objs.size vl vu vs := Heap.IsSliceOf.new ..
  obtain ⟨ops, ho⟩ := hs (.ref a) (.ref s.heap.objs.size)
  simp only [Array.length_toList] at hl
  refine tail_any ht'.typeIs slot_tuple_getitem.lookup ?_ ho
  cases k with
  | from1 =>
    simp only [slcD] at h
    split at h
    · rename_i hc
      cases h
      obtain ⟨g', st, q⟩ := Stp.slTup (vl := vl) (vu := vu) (vs := vs) (tk := tk) i (r.drop 1)
      refine tup_slice (W := W) (s := { s with heap := s.heap.push (slObj vl vu vs), toks := tk }) ht' hsl pl pu ps (by decide) (a := 1) (k := 1) (n := its.size - 1) (r := its.toList.drop 1) ?_ rfl ?_ (by (first | lia | omega)) ?_ ?_ ⟨g', st, q⟩
      · simp [partsOf, Builtin.Slice.sliceAdjust]; (first | lia | omega)
      · simp [partsOf, Builtin.Slice.sliceAdjust, Builtin.Slice.slicePlaces]; (first | lia | omega)
      · have := pick_run its 1 (its.size - 1)
        rw [List.filterMap_map] at this
        rw [List.take_of_length_le (by simp)] at this
        rw [← this]
        congr 1
        funext j
        show its[(1 + (j : Int) * 1).toNat]? = its[1 + j]?
        have : (1 + (j : Int) * 1).toNat = 1 + j := by (first | lia | omega)
        rw [this]
      · have := hc.2; exact lim_line (by simp; (first | lia | omega))
    · cases h
  | butLast =>
    simp only [slcD] at h
    split at h
    · rename_i hc
      cases h
      obtain ⟨g', st, q⟩ := Stp.slTup (vl := vl) (vu := vu) (vs := vs) (tk := tk) i r.dropLast
      refine tup_slice (W := W) (s := { s with heap := s.heap.push (slObj vl vu vs), toks := tk }) ht' hsl pl pu ps (by decide) (a := 0) (k := 1) (n := its.size - 1) (r := its.toList.dropLast) ?_ rfl ?_ (by (first | lia | omega)) ?_ ?_ ⟨g', st, q⟩
      · simp [partsOf, Builtin.Slice.sliceAdjust]
      · simp [partsOf, Builtin.Slice.sliceAdjust, Builtin.Slice.slicePlaces]; (first | lia | omega)
      · have := pick_run its 0 (its.size - 1)
        rw [List.filterMap_map, List.drop_zero] at this
        rw [List.dropLast_eq_take, Array.length_toList, ← this]
        congr 1
        funext j
        show its[(0 + (j : Int) * 1).toNat]? = its[0 + j]?
        have : (0 + (j : Int) * 1).toNat = 0 + j := by (first | lia | omega)
        rw [this]
      · have := hc.2; exact lim_line (by simp; (first | lia | omega))
    · cases h
  | rev0 =>
    simp only [slcD] at h
    split at h
    · rename_i hc
      cases h
      obtain ⟨g', st, q⟩ := Stp.slTup (vl := vl) (vu := vu) (vs := vs) (tk := tk) i (r.drop 1).reverse
      refine tup_slice (W := W) (s := { s with heap := s.heap.push (slObj vl vu vs), toks := tk }) ht' hsl pl pu ps (by decide) (a := (its.size : Int) - 1) (k := -1) (n := its.size - 1) (r := (its.toList.drop 1).reverse) ?_ rfl ?_ (by (first | lia | omega)) ?_ ?_ ⟨g', st, q⟩
      · simp [partsOf, Builtin.Slice.sliceAdjust]
      · simp [partsOf, Builtin.Slice.sliceAdjust, Builtin.Slice.slicePlaces]
        (first | lia | omega)
      · have key := down_run (its.toList.drop 1).toArray (its.size - 1)
        rw [List.filterMap_map] at key
        rw [show (its.toList.drop 1).toArray.toList = its.toList.drop 1 from by simp, List.take_of_length_le (by simp)] at key
        rw [← key]
        apply filterMap_same
        intro j hj
        have hj := List.mem_range.mp hj
        show its[((its.size : Int) - 1 + (j : Int) * -1).toNat]? = (its.toList.drop 1).toArray[its.size - 1 - 1 - j]?
        have : ((its.size : Int) - 1 + (j : Int) * -1).toNat = 1 + (its.size - 1 - 1 - j) := by (first | lia | omega)
        rw [this, Nat.add_comm]
        simp
      · have := hc.2; exact lim_line (by simp; (first | lia | omega))
    · cases h
  | revFrom2 => simp [slcD] at h
  | upto n => simp [slcD] at h
  | rev => simp [slcD] at h
theorem slc_lst {k : SK} {xs : List PyData} {ys : PyData} {v : Value} {value sl : Expr} (i : Inv W.G g σ s) (hv : Is g v (.list xs)) (h : slcD k (.list xs) = some ys) {vl vu vs : Value}
    (pl : IsPart vl (partsOf k).1) (pu : IsPart vu (partsOf k).2.1) (ps : IsPart vs (partsOf k).2.2) (hs : ∀ o i, ∃ ops, subscripted sl false o i = operate ops (getItem o i)) {tk : Nat} :
    wpAny (model W.G.prog W.G.w) A (subscriptTail value sl v (.ref s.heap.objs.size)) (fun r s' => ∃ g', Stp W.G s g σ s' g' ∧ Is g' r ys) (fun _ _ => False) { s with heap := s.heap.push (slObj vl vu vs), toks := tk } := by
  obtain ⟨a, its, rfl, ht, r⟩ := hv.lst_at i
  have hl := r.length
  have ht' : (s.heap.push (slObj vl vu vs)).IsList a its := ht.push _
  have hsl : (s.heap.push (slObj vl vu vs)).IsSliceOf s.heap.objs.size vl vu vs := Heap.IsSliceOf.new ..
  obtain ⟨ops, ho⟩ := hs (.ref a) (.ref s.heap.objs.size)
  simp only [Array.length_toList] at hl
  have hk : (k ≠ .butLast ∧ k ≠ .rev0) ∧ xs.length ≤ lim ∧ ys = .list (slcL k xs) := by
    cases k <;> simp only [slcD] at h <;> first | (cases h; done) | (split at h <;> first | (cases h; done) | (rename_i hc; cases h; exact ⟨by simp, hc, rfl⟩))
  obtain ⟨k1, k2, rfl⟩ := hk
  refine tail_any ht'.typeIs slot_list_getitem.lookup ?_ ho
  obtain ⟨g', st, q⟩ := Stp.slLst (vl := vl) (vu := vu) (vs := vs) (tk := tk) i (slcL_all r k1)
  refine wpAny_getItem_list_slice (s := { s with heap := s.heap.push (slObj vl vu vs), toks := tk }) ht' hsl pl pu ps (step_ok k) ⟨g', ?_, q⟩ (lim_line (by (first | lia | omega)))
  simpa using st
theorem SndE.slc {v : Expr} {a : E} {lo hi st : Option Expr} {p pos : Pos} (k : SK) (ha : SndE W cx v a) (h1 : PartE lo (partsOf k).1) (h2 : PartE hi (partsOf k).2.1) (h3 : PartE st (partsOf k).2.2)
    (hs : ∀ o i, ∃ ops, subscripted (.Slice lo hi st p) false o i = operate ops (getItem o i) := by intro _ _; exact ⟨_, rfl⟩) : SndE W cx (.Subscript v (.Slice lo hi st p) pos) (.slc k a) := fun _ A s g σ env ρ xs σ' rm i eo he => by
  simp only [ev, Option.bind_eq_some_iff] at he
  obtain ⟨⟨x, σ₁⟩, e1, y, e2, he⟩ := he
  simp only [Option.some.injEq, Prod.mk.injEq] at he
  obtain ⟨rfl, rfl⟩ := he
  refine Subscript_ ((ha.oneD rm i eo e1).use fun o s₁ g₁ st₁ q => ?_)
  refine slice_run (W := W) (k := k) h1 h2 h3 fun vl vu vs tk pl pu ps => ?_
  dsimp only at e2
  cases x with
  | tuple zs =>
    refine wpAny_mono (slc_tup (W := W) (A := A) st₁.inv q e2 pl pu ps hs) ?_ fun _ _ f => f
    rintro r s₂ ⟨g₂, st₂, q₂⟩
    exact ⟨g₂, st₁.trans st₂, _, rfl, q₂⟩
  | list zs =>
    refine wpAny_mono (slc_lst (W := W) (A := A) st₁.inv q e2 pl pu ps hs) ?_ fun _ _ f => f
    rintro r s₂ ⟨g₂, st₂, q₂⟩
    exact ⟨g₂, st₁.trans st₂, _, rfl, q₂⟩
  | _ => simp [slcD] at e2
end
end Mine

namespace Mine
open PySem PySem.W PyProof.Rows PySem.Calls

section
variable {W : Wd} {cx : Cx} {A : Around} {s : Shared} {g : Heap} {σ σ' : Sg} {ρ : List Bnd} {κ : Anc}
theorem lim_63 {n : Nat} (h : n ≤ lim) : (n : Int) < 2 ^ 63 := by have : lim = 1000000 := rfl; (first | lia | omega)
theorem mkI_of {n : Nat} {d : PyData} (h : mkI (n : Int) = some d) : (n : Int) < 2 ^ 63 ∧ d = .int n := by
  unfold mkI at h
  split at h
  · rename_i hk
    simp only [intOk, Bool.and_eq_true, decide_eq_true_eq] at hk
    cases h; exact ⟨by (first | lia | omega), rfl⟩
  · cases h
theorem len_run (i : Inv W.G g σ s) {u : Value} {x d : PyData} (hu : Is g u x) (h : biD .len x = some d) : Runs W.G A s g σ (call (.builtin "len") [u]) (fun r g' => Is g' r d) := by
  cases x with
  | tuple xs =>
    obtain ⟨a, vs, rfl, ht, r⟩ := hu.tup_at i
    have hl := r.length
    simp only [Array.length_toList] at hl
    simp only [biD, ← hl] at h
    obtain ⟨h1, rfl⟩ := mkI_of h
    exact PyProof.Rows.len_tuple ht h1 ⟨g, .tok i _, .int⟩
  | list xs =>
    obtain ⟨a, vs, rfl, ht, r⟩ := hu.lst_at i
    have hl := r.length
    simp only [Array.length_toList] at hl
    simp only [biD, ← hl] at h
    obtain ⟨h1, rfl⟩ := mkI_of h
    exact Calls.call_len_list ht h1 ⟨g, .tok i _, .int⟩
  | _ => simp [biD] at h
theorem tuple_run (i : Inv W.G g σ s) {u : Value} {x d : PyData} (hu : Is g u x) (h : biD .tuple x = some d) : Runs W.G A s g σ (call (.type "tuple") [u]) (fun r g' => Is g' r d) := by
  cases x with
  | list xs =>
    obtain ⟨a, vs, rfl, ht, r⟩ := hu.lst_at i
    have hl := r.length
    simp only [Array.length_toList] at hl
    simp only [biD] at h
    obtain ⟨rfl, h1⟩ := mkT_eq h
    refine call_tuple_list ht (fun h' hk => ?_) (lim_line (by (first | lia | omega)))
    have st := Stp.keepAll (G := W.G) (tk := s.toks) i hk
    obtain ⟨g', st', q⟩ := Stp.pushTup (tk := s.toks) st.inv (vs := vs.toList) r
    exact ⟨g', st.trans (by simpa using st'), q⟩
  | _ => simp [biD] at h
theorem list_run (i : Inv W.G g σ s) {u : Value} {x d : PyData} (hu : Is g u x) (h : biD .list x = some d) : Runs W.G A s g σ (call (.type "list") [u]) (fun r g' => Is g' r d) := by
  cases x with
  | tuple xs =>
    obtain ⟨a, vs, rfl, ⟨o, ho, hc, n, hd⟩, r⟩ := hu.tup_at i
    have hl := r.length
    simp only [Array.length_toList] at hl
    simp only [biD] at h
    obtain ⟨rfl, h1⟩ := mkL_eq h
    refine call_list_seq a (.inr rfl) ho hc hd (fun h' c' hk hD => ?_) (lim_line (by (first | lia | omega)))
    obtain ⟨g', st, q⟩ := Stp.newSeq (T := "list") (tk := s.toks) (vs := vs.toList) i (.inr rfl) hk size_none (by simpa using hD) r
    rw [if_neg (by decide)] at q
    exact ⟨g', st, q⟩
  | _ => simp [biD] at h
noncomputable def biV : Bi → Option Value
  | .len => some (.builtin "len")
  | .tuple => some (.type "tuple")
  | .list => some (.type "list")
  | .sorted => some (.builtin "sorted")
  | .join => none
theorem bi_run (i : Inv W.G g σ s) {n : Nat} (rm : Room A n) {u : Value} {x d : PyData} {b : Bi} {v : Value} (hv : biV b = some v) (hu : Is g u x) (h : biD b x = some d) : Runs W.G A s g σ (call v [u]) (fun r g' => Is g' r d) := by
  cases b <;> simp only [biV, Option.some.injEq] at hv <;> first | (cases hv; done) | subst hv
  · exact len_run i hu h
  · exact tuple_run i hu h
  · exact list_run i hu h
  · cases x <;> simp only [biD] at h <;> try (cases h; done)
    split at h
    · rename_i hk
      cases h
      exact sorted_run i rm hu hk
    · cases h
theorem SndEs.one {a : Expr} {e : E} (h : SndE W cx a e) (hn : notStar a = true) : SndEs W cx [a] (.cons e .nil) := SndEs.cons h SndEs.nil hn
theorem plain_nil {env : Env} {pos : Pos} : (backTo pos (starEach [] env)).any (·.1) = false := rfl
theorem SndE.bi (hW : W.Ok) {b : Bi} {v : Value} {x : Str} {p pos : Pos} {a : Expr} {e : E} (hv : biV b = some v) (hk : cx.kindOf x = some .globalImplicit) (hg : nsIn W.G.K mainGlobals x = some none) (hb : bootBuiltins x = some v) (h : SndE W cx a e)
    (hn : x ≠ "__name__" := by decide +kernel) (hd : (x == ("__debug__" : Str)) = false := by decide +kernel) (hs : notStar a = true := by rfl) : SndE W cx (.Call (.Name x p) [a] [] pos) (.bi b e) := fun _ A s g σ env ρ xs σ' rm i eo he => by
  simp only [ev, Option.bind_eq_some_iff] at he
  obtain ⟨⟨x₁, σ₁⟩, h1, d, h2, he⟩ := he
  simp only [Option.some.injEq, Prod.mk.injEq] at he
  obtain ⟨rfl, rfl⟩ := he
  refine wpAny_Call_NameR (bui_run hW i eo hk hg hb hn hd ?_)
  have go : wpAny (model W.G.prog W.G.w) A (spliced (backTo pos (starEach [a] env))) (fun vs s₁ => wpAny (model W.G.prog W.G.w) A (call v vs) (fun r s' => ∃ g', Stp W.G s g σ₁ s' g' ∧ ∃ y, [V.d d] = [y] ∧ IsV W.G g' r y) (fun _ _ => False) s₁) (fun _ _ => False) s := by
    refine spliced_more ?_ (star_of hs)
    refine (h.oneD rm i eo h1).use fun u s₁ g₁ st q => spliced_none ?_
    refine Runs.after st ((bi_run st.inv rm hv q h2).mono fun r g' q => ⟨_, rfl, q⟩)
  cases b <;> simp only [biV, Option.some.injEq] at hv <;> first | (cases hv; done) | subst hv
  · exact PyProof.Rows.callWith_builtin1 go (star_of hs) plain_nil
  · exact PySem.Pv.callWith_type1 go (star_of hs) plain_nil
  · exact PySem.Pv.callWith_type1 go (star_of hs) plain_nil
  · exact PyProof.Rows.callWith_builtin1 go (star_of hs) plain_nil

/-! a def of the text -/
theorem plain_any {as : List Expr} (h : as.all notStar = true) (env : Env) (pos : Pos) : (backTo pos (starEach as env)).any (·.1) = false := by
  have e : ∀ l : List Expr, l.all notStar = true → (starEach l env).any (·.1) = false := by
    intro l
    induction l with
    | nil => intro _; rfl
    | cons a l ih =>
      intro h
      simp only [List.all_cons, Bool.and_eq_true] at h
      rw [star_of h.1, List.any_cons, ih h.2]; rfl
  have e := e as h
  unfold backTo
  simpa [List.any_map] using e
theorem SndE.call (hW : W.Ok) {x : Str} {f : Nat} {p pos : Pos} {a : Expr} {as : List Expr} {es : E} (hk : cx.kindOf x = some .globalImplicit) (hg : nsIn W.G.K mainGlobals x = some (some (.ref (W.adr f)))) (hkeep : keepIn W.G.K (.ref (W.adr f)) = true) (h : SndEs W cx (a :: as) es)
    (hd : (x == ("__debug__" : Str)) = false := by decide +kernel) (hs : notStar a = true := by rfl) (hss : as.all notStar = true := by rfl) : SndE W cx (.Call (.Name x p) (a :: as) [] pos) (.call f es) := fun _ A s g σ env ρ xs σ' rm i eo he => by
  simp only [ev, Option.bind_eq_some_iff] at he
  obtain ⟨⟨ys, σ₁⟩, h1, ⟨v, σ₂⟩, h2, he⟩ := he
  simp only [Option.some.injEq, Prod.mk.injEq] at he
  obtain ⟨rfl, rfl⟩ := he
  refine wpAny_Call_NameR (glob_run hW i eo hk hg hd ?_)
  refine callWith_K (K := W.G.K) hW.glb.kin hkeep ?_ (star_of hs) (plain_any hss env pos)
  refine (h A s g σ env ρ ys σ₁ pos rm i eo h1).use fun vs s₁ g₁ st q => ⟨hW.glb.kin.keeps st.inv.keep₀, ?_⟩
  exact Runs.after st ((hW.call f ys σ₁ v σ₂ h2 A s₁ g₁ vs rm st.inv q).mono fun r g' q => ⟨_, rfl, q⟩)

/-! the class -/
structure BagOk (G : Cfg) : Prop where
  ga : findIn G.K (.ref G.C) "__getattribute__" = some (some (.builtin "object.__getattribute__"))
  gb : findIn G.K (.ref G.C) "__getattr__" = some none
  dict : hasDictIn G.K G.C = true
  ops : findIn G.K (.ref G.C) "ops" = some none
theorem InstIs.at (i : Inv W.G g σ s) {v : Value} {x : PyData} (h : InstIs W.G g v x) : ∃ a dx n hsh tk u, v = .ref a ∧ InstAt s.heap a (instObj W.G.C dx) W.G.C (some (dictOf [⟨hsh, .str "ops" tk, u⟩] n)) ∧ handedIn u = true ∧ Is g u x := by
  obtain ⟨a, dx, n, hsh, tk, u, e, h1, h2, h3, h4⟩ := h
  exact ⟨a, dx, n, hsh, tk, u, e, ⟨i.sub _ _ h1, rfl, rfl, i.sub _ _ h2⟩, h3, h4⟩
theorem look_ops {hsh : Int} {tk : Tok} {u : Value} {n : Nat} : lookIn "ops" (dictOf [⟨hsh, .str "ops" tk, u⟩] n) = some (some u) := by
  rw [lookIn_dict]; unfold getL
  rw [List.find?_cons]
  have : (Value.str (Str.ofString "ops") tk).isStr (Str.ofString "ops") = true := by unfold Value.isStr; exact beq_self_eq_true _
  rw [this]
theorem look_no {name : Str} (hne : name ≠ "ops") {hsh : Int} {tk : Tok} {u : Value} {n : Nat} : lookIn name (dictOf [⟨hsh, .str "ops" tk, u⟩] n) = some none := by
  rw [lookIn_dict]; unfold getL
  rw [List.find?_cons]
  have : (Value.str (Str.ofString "ops") tk).isStr name = false := by
    unfold Value.isStr
    simpa using fun e => hne e.symm
  rw [this]
  simp [DictEntry.refKey]
theorem SndE.ops (hW : W.Ok) (hB : BagOk W.G) {v : Expr} {e : E} {pos : Pos} (h : SndE W cx v e)
    (he : ∀ env, eval (.Attribute v "ops" pos) env = (do let o ← eval v env; standAt pos.atName; let r ← holding [o] (getAttr o "ops" true); letTemporaryGo v o r; pure r)) : SndE W cx (.Attribute v "ops" pos) (.ops e) := fun _ A s g σ env ρ xs σ' rm i eo hx => by
  simp only [ev, Option.bind_eq_some_iff] at hx
  obtain ⟨⟨y, σ₁⟩, h1, hx⟩ := hx
  dsimp only at hx
  split at hx
  · rename_i d
    simp only [Option.some.injEq, Prod.mk.injEq] at hx
    obtain ⟨rfl, rfl⟩ := hx
    refine Attribute_any_ ((h.one rm i eo h1).use fun o s₁ g₁ st q => ?_) (he env)
    obtain ⟨a, dx, n, hsh, tk, u, rfl, I, hu, r⟩ := InstIs.at st.inv (x := d) q
    exact get_value (hW.glb.kin.keeps st.inv.keep₀) I hB.ga (findObj_own hB.dict hB.ops rfl look_ops) hu ⟨g₁, st.trans (.tok st.inv _), _, rfl, r⟩
  · cases hx
theorem SndE.meth (hW : W.Ok) (hB : BagOk W.G) {o : Expr} {name : Str} {f : Nat} {apos pos : Pos} {a : Expr} {as : List Expr} {e es : E} (h : SndE W cx o e) (hs : SndEs W cx (a :: as) es)
    (hf : findIn W.G.K (.ref W.G.C) name = some (some (.ref (W.adr f)))) (ht : typeIn W.G.K (.ref (W.adr f)) = some (.type "function")) (hkeep : keepIn W.G.K (.ref (W.adr f)) = true) (hne : name ≠ "ops" := by decide +kernel) (hn : notStar a = true := by rfl) (hss : as.all notStar = true := by rfl)
    (he : ∀ env, ∃ pl, eval (.Call (.Attribute o name apos) (a :: as) [] pos) env = (do
      let ov ← eval o env
      standAt apos.atName
      let (f, first) ← holding [ov] (getMethod ov name pl)
      callWith pos f first (backTo pos (starEach (a :: as) env)) []) := by intro _; exact ⟨_, rfl⟩) : SndE W cx (.Call (.Attribute o name apos) (a :: as) [] pos) (.meth f e es) := fun _ A s g σ env ρ xs σ' rm i eo hx => by
  simp only [ev, Option.bind_eq_some_iff] at hx
  obtain ⟨⟨y, σ₁⟩, h1, hx⟩ := hx
  dsimp only at hx
  split at hx
  · rename_i d
    obtain ⟨⟨ys, σ₂⟩, h2, hx⟩ := Option.bind_eq_some_iff.mp hx
    obtain ⟨⟨v, σ₃⟩, h3, hx⟩ := Option.bind_eq_some_iff.mp hx
    simp only [Option.some.injEq, Prod.mk.injEq] at hx
    obtain ⟨rfl, rfl⟩ := hx
    obtain ⟨pl, he⟩ := he env
    refine MethodCall_ (pl := pl) ((h.one rm i eo h1).use fun ov s₁ g₁ st q => ?_) he
    obtain ⟨b, dx, n, hsh, tk, u, rfl, I, hu, r⟩ := InstIs.at st.inv (x := d) q
    refine method_fn (hW.glb.kin.keeps st.inv.keep₀) I hB.ga hB.gb hf ht (by show (lookIn name _).map _ = _; rw [look_no hne]; rfl) ?_
    refine callWith_K (K := W.G.K) hW.glb.kin hkeep ?_ (star_of hn) (plain_any hss env pos)
    refine (hs A s₁ g₁ σ₁ env ρ ys σ₂ pos rm st.inv (eo.step st) h2).use fun vs s₂ g₂ st₂ q₂ => ⟨hW.glb.kin.keeps st₂.inv.keep₀, ?_⟩
    exact Runs.after (st.trans st₂) ((hW.call f (.me d :: ys) σ₂ v σ₃ h3 A s₂ g₂ (.ref b :: vs) rm st₂.inv ⟨IsV.mono (x := .me d) q st₂.grow, q₂⟩).mono fun r g' q => ⟨_, rfl, q⟩)
  · cases hx
end
end Mine

namespace Mine
open PySem PySem.W PyProof.Rows PySem.Calls

structure InitOk (G : Cfg) : Prop where
  makes : makesIn G.K G.C = true
  sa : findIn G.K (.ref G.C) "__setattr__" = some (some (.builtin "object.__setattr__"))
  over : plainOver G.K G.C = true
  taker : takerIn G.K G.C "ops" = some none
  init : ∃ fI oc od osl fd p1 p2 p3 p4, findIn G.K (.ref G.C) "__init__" = some (some (.ref fI)) ∧ typeIn G.K (.ref fI) = some (.type "function") ∧
    G.K.lookup fI = some ⟨oc, od, .func fd, osl⟩ ∧ fd.body = .stmts [.Assign [.Attribute (.Name "self" p1) "ops" p2] (.Name "ops" p3) p4] ∧ codeIn G.K fd.code fd.qualname = true ∧
    (∀ a b, bindArgs fd ⟨[a, b], []⟩ = pure [(Str.ofString "self", a), (Str.ofString "ops", b)]) ∧ (∀ x ∈ fd.scope.names, x.2 ≠ .cell) ∧ fd.scope.names.lookup (Str.ofString "self") = some .local ∧ fd.scope.names.lookup (Str.ofString "ops") = some .local ∧
    fd.scope.isCoroutine = false ∧ fd.scope.isGenerator = false ∧ fd.scope.kind = .function
theorem assign_attr {M : Model} {A : Around} {E : Value → Shared → Prop} {s : Shared} {env : Env} {x y : Str} {p1 p2 p3 p4 : Pos} {Q : Flow → Shared → Prop}
    (h : wpAny M A (eval (.Name x p3) env) (fun v s₁ => wpAny M A (eval (.Name y p1) env) (fun ov s₂ => wpAny M A (setAttr ov "ops" v) (fun _ => Q .next) E s₂) E s₁) E s) :
    wpAny M A (exec (.Assign [.Attribute (.Name y p1) "ops" p2] (.Name x p3) p4) env) Q E s :=
  plainObj_wpAny_Assign_Attribute h rfl

section
variable {W : Wd} {cx : Cx} {A : Around} {s : Shared} {g : Heap} {σ σ' : Sg} {ρ : List Bnd} {κ : Anc}
theorem make_run (hW : W.Ok) (hB : BagOk W.G) (hI : InitOk W.G) (i : Inv W.G g σ s) (rm : Room A W.n) {u : Value} {x : PyData} (hu : Is g u x) (hh : handedIn u = true) :
    Runs W.G A s g σ (call (.ref W.G.C) [u]) (fun r g' => InstIs W.G g' r x) := by
  obtain ⟨fI, oc, od, osl, fd, p1, p2, p3, p4, e1, e2, e3, e4, e5, e6, e7, e8, e9, e10, e11, e12⟩ := hI.init
  obtain ⟨hh', gg, dd, tt, os⟩ := s
  have X : W.G.K.In hh' := hW.glb.kin.keeps i.keep₀
  refine wpAny_call (make_core (makes_of X hI.makes) (looks_findIn X e1) (fun self => bind_fn X self e2) (.inl rfl) ?_)
  have k1 : ∀ b o, hh'.get? b = some o → ((hh'.push emptyDict).push (instObj W.G.C hh'.objs.size)).get? b = some o := fun b o e => Heap.get?_push_of_some _ (Heap.get?_push_of_some _ e)
  have hsz : ((hh'.push emptyDict).push (instObj W.G.C hh'.objs.size)).objs.size = hh'.objs.size + 2 := by rw [Heap.size_push, Heap.size_push]
  have hx : ((hh'.push emptyDict).push (instObj W.G.C hh'.objs.size)).get? (hh'.objs.size + 1) = some (instObj W.G.C hh'.objs.size) := by
    have := Heap.get?_push_size (hh'.push emptyDict) (o := instObj W.G.C hh'.objs.size) rfl
    rwa [Heap.size_push] at this
  have hdx : ((hh'.push emptyDict).push (instObj W.G.C hh'.objs.size)).get? hh'.objs.size = some emptyDict := Heap.get?_push_of_some _ (Heap.get?_push_size _ rfl)
  have lim₀ : hh'.NoLimit := hW.glb.lim.keeps i.keep₀
  have lim₁ := lim₀.keeps k1
  have kept := i.sub
  generalize (hh'.push emptyDict).push (instObj W.G.C hh'.objs.size) = H1 at k1 hsz hx hdx lim₁ ⊢
  have X1 : W.G.K.In H1 := X.keeps k1
  have hd := rm.depth
  refine codeAny_call_def (fd := fd) (binds := [(Str.ofString "self", .ref (hh'.objs.size + 1)), (Str.ofString "ops", u)]) (by rw [depth_under_make]; (first | lia | omega)) (X1 _ _ e3) rfl lim₁ (codeRec_of X1 e5) e4 (BindsTo.of_eq (e6 _ _)) e7 ?_ (fun h₁ hns hk => ?_) e10 e11 e12
  · intro y hy
    simp only [List.mem_cons, List.not_mem_nil, or_false] at hy
    rcases hy with rfl | rfl
    · exact e8
    · exact e9
  have fn : (callEnv fd H1.objs.size fI).scope.kind = .function := e12
  have F : Fr hh' H1.objs.size h₁ (fun y => [((Str.ofString "self"), Value.ref (hh'.objs.size + 1)), (Str.ofString "ops", u)].reverse.lookup y) := ⟨hns, fun b o e => hk b o (k1 b o e), by rw [hsz]; exact Nat.le_add_right _ _⟩
  have N : News hh' H1.objs.size h₁ [(hh'.objs.size + 1, instObj W.G.C hh'.objs.size), (hh'.objs.size, dictOf [] 0)] := by
    intro p hp
    simp only [List.mem_cons, List.not_mem_nil, or_false] at hp
    rcases hp with rfl | rfl
    · exact ⟨hk _ _ hx, by rw [hsz]; exact Nat.ne_of_lt (Nat.lt_succ_self _), Heap.get?_none_of_le (Nat.le_succ _)⟩
    · exact ⟨hk _ _ hdx, by rw [hsz]; exact Nat.ne_of_lt (Nat.lt_add_of_pos_right (by decide)), size_none⟩
  have kl : ∀ y, fd.scope.names.lookup y = some .local → (callEnv fd H1.objs.size fI).kindOf y = some .local := fun y e => e
  show wpAny _ _ (exec _ _ >>= _) _ _ _
  refine wpAny_bind (assign_attr ?_)
  refine wpAny_Name (wpAny_loadName_local fn (kl _ e9) hns (v := u) rfl ?_) (by decide +kernel)
  refine wpAny_Name (wpAny_loadName_local fn (kl _ e8) hns (v := .ref (hh'.objs.size + 1)) (by kernel_rfl) ?_) (by decide +kernel)
  have I : InstAt h₁ (hh'.objs.size + 1) (instObj W.G.C hh'.objs.size) W.G.C (some (dictOf [] 0)) := ⟨hk _ _ hx, rfl, rfl, hk _ _ hdx⟩
  refine set_dict F X N I rfl hI.sa hI.over hI.taker hB.dict rfl rfl (.tail (by show hh'.objs.size + 1 ≠ hh'.objs.size; (first | lia | omega)) (.head (fun _ h => nomatch h))) (by show 1 ≤ 1000; decide) fun h₂ F₂ N₂ => ?_
  refine wpAny_pure ⟨rfl, ?_⟩
  have kk : ∀ b o, hh'.get? b = some o → h₂.get? b = some o := F₂.keep
  have st := Stp.all (G := W.G) (tk := ((tt + 2) + 2)) i kk (fun b : Addr => b = hh'.objs.size + 1 ∨ b = hh'.objs.size) (fun b hb => by
    rcases hb with rfl | rfl
    · exact Heap.get?_none_of_le (Nat.le_succ _)
    · exact size_none)
  refine ⟨frz g h₂ (fun b : Addr => b = hh'.objs.size + 1 ∨ b = hh'.objs.size), st, hh'.objs.size + 1, hh'.objs.size, 1, _, _, u, rfl, frz_new (Or.inl rfl) (N₂ _ (.head _)).1, frz_new (Or.inr rfl) (N₂ _ (.tail _ (.head _))).1, hh, hu.mono (frz_grow (i.sub.trans kk))⟩
theorem SndE.mk (hW : W.Ok) (hB : BagOk W.G) (hI : InitOk W.G) {x : Str} {p pos : Pos} {a : Expr} {e : E} (hk : cx.kindOf x = some .globalImplicit) (hg : nsIn W.G.K mainGlobals x = some (some (.ref W.G.C))) (hkeep : keepIn W.G.K (.ref W.G.C) = true) (h : SndE W cx a e)
    (hd : (x == ("__debug__" : Str)) = false := by decide +kernel) (hs : notStar a = true := by rfl) : SndE W cx (.Call (.Name x p) [a] [] pos) (.mk e) := fun _ A s g σ env ρ xs σ' rm i eo he => by
  simp only [ev, Option.bind_eq_some_iff] at he
  obtain ⟨⟨d, σ₁⟩, h1, he⟩ := he
  simp only [Option.some.injEq, Prod.mk.injEq] at he
  obtain ⟨rfl, rfl⟩ := he
  refine wpAny_Call_NameR (glob_run hW i eo hk hg hd ?_)
  refine callWith_K (K := W.G.K) hW.glb.kin hkeep ?_ (star_of hs) (plain_any (as := []) rfl env pos)
  refine spliced_more ?_ (star_of hs)
  refine (h.oneD rm i eo h1).use fun u s₁ g₁ st q => spliced_none ⟨hW.glb.kin.keeps st.inv.keep₀, ?_⟩
  have hu : handedIn u = true := by
    obtain ⟨as, r⟩ := q
    cases r <;> rfl
  exact Runs.after st ((make_run hW hB hI st.inv rm q hu).mono fun r g' q => ⟨_, rfl, q⟩)
end
end Mine

namespace Mine
open PySem PySem.W PyProof.Rows PySem.Calls

theorem catS_cps : ∀ (ss : List Str), (catS ss).cps = (ss.map (·.cps)).foldr (· ++ ·) #[]
  | [] => rfl
  | x :: r => by
    show (x ++ catS r).cps = _
    rw [Str.cps_append, catS_cps r]; rfl
theorem foldl_cat : ∀ (ss : List Str) (a : Array Nat), ss.foldl (fun acc p => acc ++ (#[] : Array Nat) ++ p.cps) a = a ++ (ss.map (·.cps)).foldr (· ++ ·) #[]
  | [], a => by simp
  | x :: r, a => by
    rw [List.foldl_cons, foldl_cat r]
    simp [Array.append_assoc]
theorem glued_empty {sep : Str} (hs : sep.cps = #[]) (ss : List Str) : Builtin.Str.glued sep ss = catS ss := by
  apply Str.ext'
  rw [catS_cps]
  unfold Builtin.Str.glued
  rw [hs]
  cases ss with
  | nil => rfl
  | cons x r =>
    simp only [List.drop_one, List.tail_cons, List.headD_cons, List.map_cons, List.foldr_cons]
    exact foldl_cat r x.cps
theorem sum_len : ∀ (ss : List Str) (a : Nat), (ss.foldl (fun acc x => acc + x.length + 0) a) = a + (catS ss).length
  | [], a => by
    show a = a + 0
    (first | lia | omega)
  | x :: r, a => by
    rw [List.foldl_cons, sum_len r]
    show _ = a + (x ++ catS r).length
    rw [Str.length_append]
    (first | lia | omega)
theorem strs_of {g : Heap} : ∀ {vs : List Value} {ds : List PyData} {ss : List Str}, IsAll g vs ds → strsOf ds = some ss → ∃ l : List (Str × Tok), vs = strValues l ∧ l.map (·.1) = ss
  | vs, [], ss, h, e => by
    simp only [strsOf, Option.some.injEq] at e
    subst e
    exact ⟨[], h.nil_inv, rfl⟩
  | vs, .str x :: ds, ss, h, e => by
    simp only [strsOf, Option.map_eq_some_iff] at e
    obtain ⟨r, e, rfl⟩ := e
    obtain ⟨v, ws, rfl, a, k⟩ := h.cons_inv
    obtain ⟨t, rfl⟩ := a.str_inv
    obtain ⟨l, rfl, rfl⟩ := strs_of k e
    exact ⟨(x, t) :: l, rfl, rfl⟩
  | _, .none :: _, _, _, e => by simp [strsOf] at e
  | _, .bool _ :: _, _, _, e => by simp [strsOf] at e
  | _, .int _ :: _, _, _, e => by simp [strsOf] at e
  | _, .list _ :: _, _, _, e => by simp [strsOf] at e
  | _, .tuple _ :: _, _, _, e => by simp [strsOf] at e
  | _, .dict _ :: _, _, _, e => by simp [strsOf] at e

section
variable {W : Wd} {cx : Cx} {A : Around} {s : Shared} {g : Heap} {σ σ' : Sg} {ρ : List Bnd} {κ : Anc}
theorem join_run (i : Inv W.G g σ s) {sep : Str} {t : Tok} {u : Value} {x d : PyData} (hs : sep.cps = #[]) (hu : Is g u x) (h : biD .join x = some d) :
    Runs W.G A s g σ (call (.builtin "str.join") [.str sep t, u]) (fun r g' => Is g' r d) := by
  cases x with
  | list xs =>
    obtain ⟨a, vs, rfl, ht, r⟩ := hu.lst_at i
    simp only [biD, Option.bind_eq_some_iff] at h
    obtain ⟨ss, h1, h2⟩ := h
    split at h2
    · rename_i hk
      cases h2
      obtain ⟨l, e, rfl⟩ := strs_of r h1
      have hz : sep.length = 0 := by show sep.cps.size = 0; rw [hs]; rfl
      have htl : Builtin.Str.tooLong ((l.map (·.1)).toArray.foldl (· + ·.length + sep.length) 0) = false := by
        rw [← Array.foldl_toList, List.toList_toArray, hz, sum_len]
        unfold Builtin.Str.tooLong
        have := lim_line hk.1
        simpa using this
      have ha : vs = (strValues l).toArray := by rw [← e]
      refine call_meets PySem.F.slot_str_join (typeIs_str _ _ _) PySem.F.entry_str_join (PySem.F.args_str_join_2 _ _) (meets_str_join_list sep t a l htl) ⟨ha ▸ ht, ?_⟩
      have hg : Builtin.Str.glued sep (l.map (·.1)) = catS (l.map (·.1)) := glued_empty hs _
      have fin : (Made.str (Builtin.Str.glued sep (l.map (·.1)))).post (fun v s' => ∃ g', Stp W.G s g σ s' g' ∧ Is g' v (.str (catS (l.map (·.1))))) s := by
        rw [hg]
        exact ⟨lim_line hk.1, g, .tok i _, .str⟩
      cases l with
      | nil => exact fin
      | cons p q => cases q with
        | nil =>
          refine ⟨g, .refl i, ?_⟩
          show Is g (.str p.1 p.2) (.str (p.1 ++ Str.empty))
          have : p.1 ++ Str.empty = p.1 := by apply Str.ext'; rw [Str.cps_append]; simp [Str.empty]
          rw [this]; exact .str
        | cons q r => exact fin
    · cases h2
  | _ => simp [biD] at h
end
end Mine

namespace Mine
open PySem PySem.W PyProof.Rows PySem.Calls

/-- what an assignment to names may change -/
noncomputable def Wr (cl : Bool) (cx : Cx) (env : Env) (b : Addr) : Prop := b = env.locals ∨ (cl = true ∧ ∃ x, cx.kindOf x = some .cell ∧ env.cells.lookup x = some b)
noncomputable def Moved (M : Addr → Prop) (s s' : Shared) : Prop := ∃ h' tk, s' = { s with heap := h', toks := tk } ∧ ∀ b o, ¬ M b → s.heap.get? b = some o → h'.get? b = some o
theorem Moved.refl {M : Addr → Prop} {s : Shared} : Moved M s s := ⟨_, _, rfl, fun _ _ _ e => e⟩
theorem Moved.trans {M : Addr → Prop} {a b c : Shared} (x : Moved M a b) (y : Moved M b c) : Moved M a c := by
  obtain ⟨h1, t1, rfl, k1⟩ := x
  obtain ⟨h2, t2, rfl, k2⟩ := y
  exact ⟨h2, t2, rfl, fun q o hq e => k2 q o hq (k1 q o hq e)⟩
theorem Moved.mono {M M' : Addr → Prop} {a b : Shared} (x : Moved M a b) (h : ∀ q, M q → M' q) : Moved M' a b := by
  obtain ⟨h1, t1, rfl, k1⟩ := x
  exact ⟨h1, t1, rfl, fun q o hq e => k1 q o (fun z => hq (h q z)) e⟩

section
variable {G : Cfg} {cx : Cx} {κ : Anc} {A : Around} {s s' : Shared} {g : Heap} {σ σ' : Sg} {ρ : List Bnd} {env : Env} {v : Value} {b : Bnd}
theorem Inv.moved {M : Addr → Prop} (i : Inv G g σ s) (m : Moved M s s') (hM : ∀ b, M b → g.get? b = none ∧ b ≠ G.c) : Inv G g σ s' := by
  obtain ⟨h1, t1, rfl, k1⟩ := m
  refine ⟨i.base, fun b o e => k1 b o (fun z => ?_) (i.sub b o e), i.gc, ?_⟩
  · rw [(hM b z).1] at e; cases e
  · obtain ⟨kvs, ⟨o, es, ep, ho, r⟩, e, q, l⟩ := i.shr
    exact ⟨kvs, ⟨o, es, ep, k1 _ _ (fun z => (hM _ z).2 rfl) ho, r⟩, e, q, l⟩
theorem Wr.safe {cl : Bool} (eo : EnvOk G cx κ g s.heap env ρ) (b : Addr) (h : Wr cl cx env b) : g.get? b = none ∧ b ≠ G.c := by
  rcases h with rfl | ⟨_, x, _, h⟩
  · exact ⟨eo.lg, eo.lc⟩
  · exact ⟨(eo.cc _ _ h).2.1, (eo.cc _ _ h).1⟩
/-- a change of an environment's own places keeps what it does not name -/
theorem BndIs.keep {h h' : Heap} {i : Nat} (x : BndIs G κ i g h v b) (k : isOwn b = true → ∀ o, (∃ items n, o.data = .seq items n) → h.get? (κ.f i) = some o → h'.get? (κ.f i) = some o) : BndIs G κ i g h' v b := by
  cases b with
  | un => trivial
  | v y => exact x
  | own ds =>
    obtain ⟨vs, e, ⟨n, p⟩, r⟩ := x
    exact ⟨vs, e, ⟨n, k rfl _ ⟨_, _, rfl⟩ p⟩, r⟩
theorem ns_not_seq {h : Heap} {a : Addr} {m : Str → Option Value} (n : h.Ns a m) {o : Obj} (e : h.get? a = some o) : ¬ ∃ items n, o.data = .seq items n := by
  rintro ⟨items, n', hd⟩
  obtain ⟨o', es, ep, ho, hd', _⟩ := n
  rw [e] at ho; cases ho; rw [hd] at hd'; cases hd'
theorem cell_not_seq {h : Heap} {a : Addr} {w : Option Value} (n : h.IsCell a w) {o : Obj} (e : h.get? a = some o) : ¬ ∃ items n, o.data = .seq items n := by
  rintro ⟨items, n', hd⟩
  obtain ⟨o', ho, hd'⟩ := n
  rw [e] at ho; cases ho; rw [hd] at hd'; cases hd'
noncomputable def slotInj (cx : Cx) (x : Str) (i : Nat) : Prop := ∀ y, cx.Γ.lookup y = some i → y = x
noncomputable def ownOk (κ : Anc) (ρ : List Bnd) (i : Nat) (b : Bnd) : Prop := isOwn b = true → ∀ j b', ρ[j]? = some b' → isOwn b' = true → κ.f i = κ.f j → i = j
theorem set_get {ρ : List Bnd} {i j : Nat} {b b' : Bnd} (h : (ρ.set i b)[j]? = some b') : (i = j ∧ b' = b) ∨ (i ≠ j ∧ ρ[j]? = some b') := by
  rw [List.getElem?_set] at h
  split at h
  · rename_i e
    split at h
    · cases h; exact .inl ⟨e, rfl⟩
    · cases h
  · rename_i e; exact .inr ⟨e, h⟩
theorem set_ap (eo : EnvOk G cx κ g s.heap env ρ) {i : Nat} (ho : ownOk κ ρ i b) : ∀ j k b' b'', (ρ.set i b)[j]? = some b' → (ρ.set i b)[k]? = some b'' → isOwn b' = true → isOwn b'' = true → κ.f j = κ.f k → j = k := by
  intro j k b' b'' h1 h2 h3 h4 h5
  rcases set_get h1 with ⟨e1, z1⟩ | ⟨n1, w1⟩
  · rcases set_get h2 with ⟨e2, z2⟩ | ⟨n2, w2⟩
    · exact e1.symm.trans e2
    · subst e1 z1; exact ho h3 k b'' w2 h4 h5
  · rcases set_get h2 with ⟨e2, z2⟩ | ⟨n2, w2⟩
    · subst e2 z2; exact (ho h4 j b' w1 h3 h5.symm).symm
    · exact eo.ap j k b' b'' w1 w2 h3 h4 h5
theorem env_store_local (eo : EnvOk G cx κ g s.heap env ρ) {x : Str} {i : Nat} (hk : cx.kindOf x = some .local) (hΓ : cx.Γ.lookup x = some i) (hj : slotInj cx x i) (ho : ownOk κ ρ i b) {h' : Heap} {m : Str → Option Value} (hn : s.heap.Ns env.locals m) (hn' : h'.Ns env.locals (fun y => if y = x then some v else m y))
    (hs : Heap.SameBut env.locals s.heap h') (hb : BndIs G κ i g h' v b) : EnvOk G cx κ g h' env (ρ.set i b) where
  sc := eo.sc
  kind := eo.kind
  glob := eo.glob
  bui := eo.bui
  above := eo.above
  lc := eo.lc
  lg := eo.lg
  vars := by
    obtain ⟨m₀, hn₀, f⟩ := eo.vars
    refine ⟨_, hn', fun y j b' h1 h2 h3 h4 => ?_⟩
    by_cases hy : y = x
    · subst hy
      rw [hΓ] at h1; cases h1
      rcases set_get h2 with ⟨_, rfl⟩ | ⟨n, _⟩
      · exact ⟨v, by simp, hb⟩
      · exact absurd rfl n
    · rcases set_get h2 with ⟨rfl, rfl⟩ | ⟨n, h2⟩
      · exact absurd (hj y h1) hy
      · obtain ⟨w, e, q⟩ := f y j b' h1 h2 h3 h4
        refine ⟨w, by rw [if_neg hy, ← hn₀.agree hn]; exact e, q.keep fun _ o hd e => hs.2 _ ?_ ▸ e⟩
        rintro rfl'
        rw [rfl'] at e
        exact ns_not_seq hn e hd
  cells := fun y j b' h1 h2 h3 h4 => by
    have hy : y ≠ x := by rintro rfl; rcases h4 with h4 | h4 <;> (rw [hk] at h4; cases h4)
    rcases set_get h2 with ⟨rfl, rfl⟩ | ⟨n, h2⟩
    · exact absurd (hj y h1) hy
    · obtain ⟨a, w, e, ⟨o, ho', hd'⟩, q⟩ := eo.cells y j b' h1 h2 h3 h4
      refine ⟨a, w, e, ⟨o, (hs.2 a ?_).trans ho', hd'⟩, q.keep fun _ o hd e => hs.2 _ ?_ ▸ e⟩
      · rintro rfl'
        obtain ⟨o2, es, ep, ho2, hd2, _⟩ := hn
        rw [← rfl', ho'] at ho2; cases ho2; rw [hd'] at hd2; cases hd2
      · rintro rfl'
        rw [rfl'] at e
        exact ns_not_seq hn e hd
  clo := eo.clo
  cc := fun y a e => by
    obtain ⟨h1, h2, w, o, ho', hd'⟩ := eo.cc y a e
    refine ⟨h1, h2, w, o, (hs.2 a ?_).trans ho', hd'⟩
    rintro rfl'
    obtain ⟨o2, es, ep, ho2, hd2, _⟩ := hn
    rw [← rfl', ho'] at ho2; cases ho2; rw [hd'] at hd2; cases hd2
  cL := eo.cL
  ap := set_ap eo ho
  apc := eo.apc
theorem env_store_cell (eo : EnvOk G cx κ g s.heap env ρ) {x : Str} {i : Nat} {a : Addr} (hk : cx.kindOf x = some .cell) (ha : env.cells.lookup x = some a) (hΓ : cx.Γ.lookup x = some i) (hj : slotInj cx x i) (ho : ownOk κ ρ i b) {h' : Heap} (hc : h'.IsCell a (some v))
    (hs : Heap.SameBut a s.heap h') (hb : BndIs G κ i g h' v b) : EnvOk G cx κ g h' env (ρ.set i b) where
  sc := eo.sc
  kind := eo.kind
  glob := eo.glob
  bui := eo.bui
  above := eo.above
  lc := eo.lc
  lg := eo.lg
  vars := by
    obtain ⟨m₀, hn₀, f⟩ := eo.vars
    obtain ⟨_, _, w, hcell⟩ := eo.cc x a ha
    have hLa : env.locals ≠ a := by
      rintro rfl'
      obtain ⟨o, ho', hd'⟩ := hcell
      obtain ⟨o2, es, ep, ho2, hd2, _⟩ := hn₀
      rw [rfl', ho'] at ho2; cases ho2; rw [hd'] at hd2; cases hd2
    refine ⟨m₀, hn₀.sameBut hs hLa, fun y j b' h1 h2 h3 h4 => ?_⟩
    have hy : y ≠ x := by rintro rfl; rw [hk] at h4; cases h4
    rcases set_get h2 with ⟨rfl, rfl⟩ | ⟨n, h2⟩
    · exact absurd (hj y h1) hy
    · obtain ⟨w', e, q⟩ := f y j b' h1 h2 h3 h4
      refine ⟨w', e, q.keep fun _ o hd e => hs.2 _ ?_ ▸ e⟩
      rintro rfl'
      rw [rfl'] at e
      exact cell_not_seq hcell e hd
  cells := fun y j b' h1 h2 h3 h4 => by
    obtain ⟨_, _, w, hcell⟩ := eo.cc x a ha
    by_cases hy : y = x
    · subst hy
      rw [hΓ] at h1; cases h1
      rcases set_get h2 with ⟨_, rfl⟩ | ⟨n, _⟩
      · exact ⟨a, v, ha, hc, hb⟩
      · exact absurd rfl n
    · rcases set_get h2 with ⟨rfl, rfl⟩ | ⟨n, h2⟩
      · exact absurd (hj y h1) hy
      · obtain ⟨a', w', e, ⟨o, ho', hd'⟩, q⟩ := eo.cells y j b' h1 h2 h3 h4
        refine ⟨a', w', e, ⟨o, (hs.2 a' fun z => hy (eo.apc y x a' e (z ▸ ha))).trans ho', hd'⟩, q.keep fun _ o hd e => hs.2 _ ?_ ▸ e⟩
        rintro rfl'
        rw [rfl'] at e
        exact cell_not_seq hcell e hd
  clo := eo.clo
  cc := fun y a' e => by
    obtain ⟨h1, h2, w, o, ho', hd'⟩ := eo.cc y a' e
    by_cases hz : a' = a
    · subst hz; exact ⟨h1, h2, _, hc⟩
    · exact ⟨h1, h2, w, o, (hs.2 a' hz).trans ho', hd'⟩
  cL := eo.cL
  ap := set_ap eo ho
  apc := eo.apc
end
end Mine

namespace Mine
open PySem PySem.W PyProof.Rows PySem.Calls

inductive TgtOk (cl : Bool) (cx : Cx) : Expr → Tgt → Prop
  | one {x : Str} {p : Pos} {i : Nat} : (cx.kindOf x = some .local ∨ (cl = true ∧ cx.kindOf x = some .cell)) → cx.Γ.lookup x = some i → slotInj cx x i → TgtOk cl cx (.Name x p) (.one i)
  | two {x y : Str} {p q r : Pos} {k i j : Nat} : (cx.kindOf x = some .local ∨ (cl = true ∧ cx.kindOf x = some .cell)) → cx.Γ.lookup x = some i → slotInj cx x i →
      (cx.kindOf y = some .local ∨ (cl = true ∧ cx.kindOf y = some .cell)) → cx.Γ.lookup y = some j → slotInj cx y j → TgtOk cl cx (.Tuple [.Name x p, .Name y q] k r) (.two i j)
noncomputable def tgtOwn : Tgt → Bool
  | .one _ => false
  | .two _ _ => true
/-- a drawn item -/
noncomputable def Drawn (g h : Heap) (own : Bool) (v : Value) (x : PyData) : Prop := Is g v x ∨ (own = true ∧ ∃ T vals ys, v = .ref T ∧ x = .tuple ys ∧ IsTup h T vals ∧ IsAll g vals.toList ys)

section
variable {G : Cfg} {cl : Bool} {cx : Cx} {κ : Anc} {A : Around} {s s' : Shared} {g : Heap} {σ σ' : Sg} {ρ ρ' : List Bnd} {env : Env} {v : Value} {b : Bnd} {F : Value → Shared → Prop}
theorem Moved.same {M : Addr → Prop} {h' : Heap} {tk : Nat} (k : ∀ b o, ¬ M b → s.heap.get? b = some o → h'.get? b = some o) : Moved M s { s with heap := h', toks := tk } := ⟨_, _, rfl, k⟩
theorem assign_one {x : Str} {p : Pos} {i : Nat} {Q : Unit → Shared → Prop} (eo : EnvOk G cx κ g s.heap env ρ) (hk : cx.kindOf x = some .local ∨ (cl = true ∧ cx.kindOf x = some .cell)) (hΓ : cx.Γ.lookup x = some i) (hj : slotInj cx x i) (ho : ownOk κ ρ i b)
    (hb : ∀ h' : Heap, (∀ a o, ¬ Wr cl cx env a → s.heap.get? a = some o → h'.get? a = some o) → BndIs G κ i g h' v b) (q : ∀ s', Moved (Wr cl cx env) s s' → EnvOk G cx κ g s'.heap env (ρ.set i b) → Q () s') :
    wpAny (model G.prog G.w) A (assign (.Name x p) env v) Q F s := by
  have fn := env_fn eo
  have ko := kindOf_eq eo x
  rcases hk with hk | ⟨hc, hk⟩
  · obtain ⟨m, hn, _⟩ := eo.vars
    refine wpAny_assign_Name (wpAny_storeName_local (ko.trans hk) hn (fun h' hn' hs => ?_) (by rw [fn]; rfl))
    have k : ∀ a o, ¬ Wr cl cx env a → s.heap.get? a = some o → h'.get? a = some o := fun a o na e => (hs.2 a fun z => na (.inl z)).trans e
    exact q _ (.same k) (env_store_local eo hk hΓ hj ho hn hn' hs (hb h' k))
  · obtain ⟨a, ha⟩ := eo.clo x (.inl hk)
    obtain ⟨_, _, w, hcell⟩ := eo.cc x a ha
    refine wpAny_assign_Name (wpAny_storeName_cell fn (ko.trans hk) ha hcell fun h' hc' hs => ?_)
    have k : ∀ b o, ¬ Wr cl cx env b → s.heap.get? b = some o → h'.get? b = some o := fun b o nb e => (hs.2 b fun z => nb (.inr ⟨hc, x, hk, z ▸ ha⟩)).trans e
    exact q _ (.same (tk := s.toks) k) (env_store_cell eo hk ha hΓ hj ho hc' hs (hb h' k))
theorem ownOk_v {κ : Anc} {i : Nat} {x : V} : ownOk κ ρ i (.v x) := fun h => nomatch h
theorem bind_run {target : Expr} {t : Tgt} {x : PyData} {Q : Unit → Shared → Prop} (hh : A.handled = none) (ht : TgtOk cl cx target t) (i : Inv G g σ s) (eo : EnvOk G cx κ g s.heap env ρ) (hv : Drawn g s.heap (tgtOwn t) v x) (hb : bindT t x ρ = some ρ')
    (q : ∀ s', Moved (Wr cl cx env) s s' → EnvOk G cx κ g s'.heap env ρ' → Q () s') : wpAny (model G.prog G.w) A (assign target env v) Q F s := by
  cases ht with
  | one hk hΓ hj =>
    simp only [bindT, Option.some.injEq] at hb
    subst hb
    rcases hv with hv | ⟨h, _⟩
    · exact assign_one (b := .v (.d x)) eo hk hΓ hj ownOk_v (fun _ _ => hv) q
    · cases h
  | @two x₁ y₁ p1 p2 p3 k ix iy hk hΓ hj hk' hΓ' hj' =>
    cases x with
    | tuple ys =>
      match ys, hb with
      | [a, c], hb =>
        simp only [bindT, Option.some.injEq] at hb
        subst hb
        have hT : ∃ T vals, v = .ref T ∧ IsTup s.heap T vals ∧ IsAll g vals.toList [a, c] := by
          rcases hv with hv | ⟨_, T, vals, ys, e, e2, h1, h2⟩
          · obtain ⟨T, vals, e, h1, h2⟩ := hv.tup_at i
            exact ⟨T, vals, e, h1, h2⟩
          · cases e2; exact ⟨T, vals, e, h1, h2⟩
        obtain ⟨T, vals, rfl, h1, h2⟩ := hT
        obtain ⟨u1, r1, e1, q1, k1⟩ := h2.cons_inv
        obtain ⟨u2, r2, e2, q2, k2⟩ := k1.cons_inv
        obtain rfl := k2.nil_inv
        subst e2
        have hz : vals.size = 2 := by rw [← Array.length_toList, e1]; rfl
        refine wpAny_assign_Tuple hh h1 (by rw [hz]; rfl) rfl fun h' he => ?_
        rw [e1]
        have keep : ∀ b o, s.heap.get? b = some o → h'.get? b = some o := fun b o e => he b o (Nat.ne_of_lt (Heap.lt_size e)) e
        have st := Stp.keepAll (G := G) (tk := s.toks) i keep
        show wpAny _ _ (assignInOrder [assign (.Name x₁ p1) env, assign (.Name y₁ p2) env] [u1, u2]) _ _ _
        refine wpAny_bind (wpAny_holding ?_)
        refine assign_one (s := { s with heap := h' }) (b := .v (.d a)) (eo.step st) hk hΓ hj (ownOk_v (x := .d a)) (fun _ _ => q1) fun s₁ m₁ eo₁ => ?_
        refine wpAny_bind (wpAny_holding ?_)
        refine assign_one (b := .v (.d c)) eo₁ hk' hΓ' hj' (ownOk_v (x := .d c)) (fun _ _ => q2) fun s₂ m₂ eo₂ => wpAny_pure ?_
        refine q s₂ ?_ eo₂
        have m₀ : Moved (Wr cl cx env) s { s with heap := h' } := ⟨h', s.toks, rfl, fun b o _ e => keep b o e⟩
        exact m₀.trans (m₁.trans m₂)
      | [], hb => simp [bindT] at hb
      | [_], hb => simp [bindT] at hb
      | _ :: _ :: _ :: _, hb => simp [bindT] at hb
    | _ => simp [bindT] at hb

/-! where items come from -/
structure ItOk (G : Cfg) (A : Around) (target : Expr) (own : Bool) (s₀ g h : Heap) (I : Addr) (xs : List PyData) : Prop where
  ex : ∃ fp wr P Md St, KTurns G.prog G.w A target I fp wr xs.length P Md St ∧ St 0 h ∧ (∀ i v h', P i v h' → ∃ x, xs[i]? = some x ∧ Drawn g h' own v x) ∧
    (∀ b ∈ wr, s₀.get? b = none ∧ g.get? b = none ∧ ∃ o, h.get? b = some o) ∧ (∀ b ∈ fp, b ∈ wr ∨ ∃ o, g.get? b = some o) ∧
    (∀ (s : Shared) (Q : Value → Shared → Prop) (E : Value → Shared → Prop), St 0 s.heap → Q (.ref I) s → wpAny (model G.prog G.w) A (pyIter (.ref I)) Q E s) ∧
    (∀ i h', St i h' → ∀ b ∈ wr, ∃ o, h'.get? b = some o)
noncomputable def SndI (W : Wd) (cx : Cx) (target : Expr) (own : Bool) (ast : Expr) (e : E) : Prop :=
  ∀ ⦃κ : Anc⦄ A s g σ env ρ xs σ', A.handled = none → Room A W.n → Inv W.G g σ s → EnvOk W.G cx κ g s.heap env ρ → oneL (ev W.glo W.R e ρ σ) = some (xs, σ') →
    wpAny (model W.G.prog W.G.w) A (eval ast env) (fun x s₁ => wpAny (model W.G.prog W.G.w) A (pyIter x) (fun it s₂ => ∃ g₂ I, it = .ref I ∧ Stp W.G s g σ' s₂ g₂ ∧ ItOk W.G A target own s.heap g₂ s₂.heap I xs) (fun _ _ => False) s₁) (fun _ _ => False) s

theorem letGo_seq {target : Expr} {I : Addr} {v : Value} {Q : Unit → Shared → Prop} (h : ∃ o, s.heap.get? I = some o ∧ (o.cls = .type "list_iterator" ∨ o.cls = .type "tuple_iterator") ∧ ∃ vs, o.data = .fields vs) (q : Q () s) :
    wpAny (model G.prog G.w) A (letOwnedTupleGo target (.ref I) v) Q F s := by
  obtain ⟨o, ho, hc, vs, hd⟩ := h
  unfold letOwnedTupleGo
  have go : wpAny (model G.prog G.w) A (do
      let (.ref r, .ref a) := (Value.ref I, v) | return
      let o ← load r
      match o.cls, o.data with
      | .type n, .fields vs =>
        if ["enumerate", "zip", "dict_itemiterator", "dict_reverseitemiterator", "odict_iterator", "itertools.zip_longest", "itertools.pairwise"].contains n && vs[0]? == some (rawInt a) then
          rule "for.unpacks-the-owned-tuple"
          updateField r 0 .none
      | _, _ => pure ()) Q F s := by
    cases v <;> try exact wpAny_pure q
    refine wpAny_bind (wpAny_load ho ?_)
    rcases hc with hc | hc
    · rw [hc, hd]
      exact wpAny_pure q
    · rw [hc, hd]
      exact wpAny_pure q
  split
  · exact go
  · exact go
  · exact wpAny_pure q
theorem SndI.seq {W : Wd} {target ast : Expr} {own : Bool} {e : E} (h : SndE W cx ast e) : SndI W cx target own ast e := fun _ A s g σ env ρ xs σ' hh rm i eo he => by
  obtain ⟨hx, hl⟩ := oneL_eq he
  rcases hx with hx | hx
  · refine (h A s g σ env ρ _ σ' rm i eo hx).use fun v s₁ g₁ st ⟨y, e, q⟩ => ?_
    cases e
    obtain ⟨a, vs, rfl, hL, r⟩ := Is.lst_at st.inv (v := v) q
    obtain ⟨o, ho, _⟩ := id hL
    have hlt := Heap.lt_size ho
    refine wpAny_pyIter_list hL ?_
    have keep : ∀ b o, s₁.heap.get? b = some o → (s₁.heap.push { cls := .type "list_iterator", data := .fields #[.ref a, .int 0 0] }).get? b = some o := fun b o e => Heap.get?_push_of_some _ e
    have st₂ := Stp.keepAll (G := W.G) (tk := s₁.toks) st.inv keep
    have hI : (s₁.heap.push { cls := .type "list_iterator", data := .fields #[.ref a, .int 0 0] }).IsListIter s₁.heap.objs.size a 0 := ⟨_, Heap.get?_push_size _ rfl, rfl, rfl⟩
    have ga : ∃ o, g₁.get? a = some o := by
      obtain ⟨a', o', xs', n', e', h1, _⟩ := Is.list_inv (v := .ref a) q
      cases e'; exact ⟨o', h1⟩
    have gn : g₁.get? s₁.heap.objs.size = none := by
      cases q : g₁.get? s₁.heap.objs.size with
      | none => rfl
      | some o => have := st.inv.sub _ _ q; rw [size_none] at this; cases this
    have s0 : s.heap.get? s₁.heap.objs.size = none := by
      cases q : s.heap.get? s₁.heap.objs.size with
      | none => rfl
      | some o =>
        exfalso
        by_cases hc : s₁.heap.objs.size = W.G.c
        · obtain ⟨o', _, _, h1, _⟩ := st.inv.shr.some
          rw [← hc, size_none] at h1; cases h1
        · have := st.keep _ _ hc q; rw [size_none] at this; cases this
    have hlen : vs.size = xs.length := by have := r.length; simpa using this
    have KT := KTurns.ofWalks (target := target) (Walks.list (prog := W.G.prog) (w := W.G.w) hh s₁.heap.objs.size a (Nat.ne_of_lt hlt) vs) (fun i v s Q E hs hq => letGo_seq (G := W.G) (by
      obtain ⟨⟨o, h1, h2, h3⟩, _⟩ := hs
      exact ⟨o, h1, .inl h2, _, h3⟩) hq)
    rw [hlen] at KT
    refine ⟨g₁, _, rfl, st.trans st₂, ⟨_, _, _, _, _, KT, ⟨hI, hL.push _⟩, ?_, ?_, ?_, fun s Q E hs hq => wpAny_pyIter_listiter hs.1 hq, fun i h' hs b hb => by
      obtain ⟨⟨o, h1, _⟩, _⟩ := hs
      rw [List.mem_singleton.mp hb]; exact ⟨o, h1⟩⟩⟩
    · intro i v h' hp
      obtain ⟨hi, he⟩ := Array.getElem?_eq_some_iff.mp hp
      have hi' : i < xs.length := hlen ▸ hi
      obtain ⟨w, hw, q⟩ := r.get (k := i) (d := xs[i]) (by simp [hi'])
      rw [Array.getElem?_toList, hp] at hw
      cases hw
      exact ⟨xs[i], by simp [hi'], .inl q⟩
    · intro b hb
      rw [List.mem_singleton.mp hb]
      exact ⟨s0, gn, _, Heap.get?_push_size _ rfl⟩
    · intro b hb
      rcases List.mem_cons.mp hb with rfl | hb
      · exact .inl (by simp)
      · rw [List.mem_singleton.mp hb]; exact .inr ga
  · refine (h A s g σ env ρ _ σ' rm i eo hx).use fun v s₁ g₁ st ⟨y, e, q⟩ => ?_
    cases e
    obtain ⟨a, vs, rfl, hL, r⟩ := Is.tup_at st.inv (v := v) q
    obtain ⟨o, ho, _⟩ := id hL
    have hlt := Heap.lt_size ho
    refine wpAny_pyIter_tuple hL ?_
    have keep : ∀ b o, s₁.heap.get? b = some o → (s₁.heap.push { cls := .type "tuple_iterator", data := .fields #[.ref a, .int 0 0] }).get? b = some o := fun b o e => Heap.get?_push_of_some _ e
    have st₂ := Stp.keepAll (G := W.G) (tk := s₁.toks) st.inv keep
    have hI : (s₁.heap.push { cls := .type "tuple_iterator", data := .fields #[.ref a, .int 0 0] }).IsTupleIter s₁.heap.objs.size a 0 := ⟨_, Heap.get?_push_size _ rfl, rfl, rfl⟩
    have ga : ∃ o, g₁.get? a = some o := by
      obtain ⟨a', o', xs', n', e', h1, _⟩ := Is.tuple_inv (v := .ref a) q
      cases e'; exact ⟨o', h1⟩
    have gn : g₁.get? s₁.heap.objs.size = none := by
      cases q : g₁.get? s₁.heap.objs.size with
      | none => rfl
      | some o => have := st.inv.sub _ _ q; rw [size_none] at this; cases this
    have s0 : s.heap.get? s₁.heap.objs.size = none := by
      cases q : s.heap.get? s₁.heap.objs.size with
      | none => rfl
      | some o =>
        exfalso
        by_cases hc : s₁.heap.objs.size = W.G.c
        · obtain ⟨o', _, _, h1, _⟩ := st.inv.shr.some
          rw [← hc, size_none] at h1; cases h1
        · have := st.keep _ _ hc q; rw [size_none] at this; cases this
    have hlen : vs.size = xs.length := by have := r.length; simpa using this
    have hL' : (s₁.heap.push { cls := .type "tuple_iterator", data := .fields #[.ref a, .int 0 0] }).IsTuple a vs := by
      obtain ⟨o, ho, x⟩ := hL
      exact ⟨o, keep _ _ ho, x⟩
    have KT := KTurns.ofWalks (target := target) (Walks.tuple (prog := W.G.prog) (w := W.G.w) hh s₁.heap.objs.size a (Nat.ne_of_lt hlt) vs) (fun i v s Q E hs hq => letGo_seq (G := W.G) (by
      obtain ⟨⟨o, h1, h2, h3⟩, _⟩ := hs
      exact ⟨o, h1, .inr h2, _, h3⟩) hq)
    rw [hlen] at KT
    refine ⟨g₁, _, rfl, st.trans st₂, ⟨_, _, _, _, _, KT, ⟨hI, hL'⟩, ?_, ?_, ?_, fun s Q E hs hq => wpAny_pyIter_tupleiter hs.1 hq, fun i h' hs b hb => by
      obtain ⟨⟨o, h1, _⟩, _⟩ := hs
      rw [List.mem_singleton.mp hb]; exact ⟨o, h1⟩⟩⟩
    · intro i v h' hp
      obtain ⟨hi, he⟩ := Array.getElem?_eq_some_iff.mp hp
      have hi' : i < xs.length := hlen ▸ hi
      obtain ⟨w, hw, q⟩ := r.get (k := i) (d := xs[i]) (by simp [hi'])
      rw [Array.getElem?_toList, hp] at hw
      cases hw
      exact ⟨xs[i], by simp [hi'], .inl q⟩
    · intro b hb
      rw [List.mem_singleton.mp hb]
      exact ⟨s0, gn, _, Heap.get?_push_size _ rfl⟩
    · intro b hb
      rcases List.mem_cons.mp hb with rfl | hb
      · exact .inl (by simp)
      · rw [List.mem_singleton.mp hb]; exact .inr ga
end
end Mine

namespace Mine
open PySem PySem.W PyProof.Rows PySem.Calls

/-! environments under moves *)-/
noncomputable def EnvAt (cx : Cx) (κ : Anc) (env : Env) (ρ : List Bnd) (b : Addr) : Prop := b = env.locals ∨ (∃ x, env.cells.lookup x = some b) ∨ ∃ x i ds, cx.Γ.lookup x = some i ∧ ρ[i]? = some (.own ds) ∧ b = κ.f i
section
variable {G : Cfg} {cx : Cx} {κ : Anc} {A : Around} {s s' : Shared} {g : Heap} {σ σ' : Sg} {ρ ρ' : List Bnd} {env : Env} {v : Value} {b : Bnd}
theorem EnvOk.moved {M : Addr → Prop} (eo : EnvOk G cx κ g s.heap env ρ) (m : Moved M s s') (h : ∀ b, EnvAt cx κ env ρ b → ¬ M b) : EnvOk G cx κ g s'.heap env ρ := by
  obtain ⟨h', tk, rfl, k⟩ := m
  have bk : ∀ {x : Str} {i : Nat} {v : Value} {b : Bnd}, cx.Γ.lookup x = some i → ρ[i]? = some b → BndIs G κ i g s.heap v b → BndIs G κ i g h' v b := by
    intro x i v b h1 h2 q
    cases b with
    | un => trivial
    | v y => exact q
    | own ds =>
      obtain ⟨vs, e, ⟨n, p⟩, r⟩ := q
      exact ⟨vs, e, ⟨n, k _ _ (h _ (.inr (.inr ⟨x, i, ds, h1, h2, rfl⟩))) p⟩, r⟩
  refine ⟨eo.sc, eo.kind, eo.glob, eo.bui, eo.above, eo.lc, eo.lg, ?_, fun y i b h1 h2 h3 h4 => ?_, eo.clo, fun y a e => ?_, eo.cL, eo.ap, eo.apc⟩
  · obtain ⟨m, n, f⟩ := eo.vars
    refine ⟨m, n.at' fun o e => k _ _ (h _ (.inl rfl)) e, fun y i b h1 h2 h3 h4 => ?_⟩
    obtain ⟨v, e, q⟩ := f y i b h1 h2 h3 h4
    exact ⟨v, e, bk h1 h2 q⟩
  · obtain ⟨a, v, e, ⟨o, ho, hd⟩, q⟩ := eo.cells y i b h1 h2 h3 h4
    exact ⟨a, v, e, ⟨o, k _ _ (h _ (.inr (.inl ⟨y, e⟩))) ho, hd⟩, bk h1 h2 q⟩
  · obtain ⟨h1, h2, v, o, ho, hd⟩ := eo.cc y a e
    exact ⟨h1, h2, v, o, k _ _ (h _ (.inr (.inl ⟨y, e⟩))) ho, hd⟩
theorem EnvOk.un (eo : EnvOk G cx κ g s.heap env ρ) (i : Nat) : EnvOk G cx κ g s.heap env (ρ.set i .un) where
  sc := eo.sc
  kind := eo.kind
  glob := eo.glob
  bui := eo.bui
  above := eo.above
  lc := eo.lc
  lg := eo.lg
  vars := by
    obtain ⟨m, n, f⟩ := eo.vars
    refine ⟨m, n, fun y j b h1 h2 h3 h4 => ?_⟩
    rcases set_get h2 with ⟨_, e⟩ | ⟨_, h2⟩
    · exact absurd e h3
    · exact f y j b h1 h2 h3 h4
  cells := fun y j b h1 h2 h3 h4 => by
    rcases set_get h2 with ⟨_, e⟩ | ⟨_, h2⟩
    · exact absurd e h3
    · exact eo.cells y j b h1 h2 h3 h4
  clo := eo.clo
  cc := eo.cc
  cL := eo.cL
  ap := set_ap eo (b := .un) fun h => nomatch h
  apc := eo.apc
theorem EnvOk.clr (eo : EnvOk G cx κ g s.heap env ρ) (t : Tgt) : EnvOk G cx κ g s.heap env (clrT t ρ) := by
  cases t with
  | one i => exact eo.un i
  | two i j => exact (eo.un i).un j
theorem EnvAt.un {i : Nat} {a : Addr} (h : EnvAt cx κ env (ρ.set i .un) a) : EnvAt cx κ env ρ a := by
  rcases h with h | h | ⟨x, j, ds, h1, h2, h3⟩
  · exact .inl h
  · exact .inr (.inl h)
  · rcases set_get h2 with ⟨_, e⟩ | ⟨_, h2⟩
    · cases e
    · exact .inr (.inr ⟨x, j, ds, h1, h2, h3⟩)
theorem EnvAt.clr {t : Tgt} {a : Addr} (h : EnvAt cx κ env (clrT t ρ) a) : EnvAt cx κ env ρ a := by
  cases t with
  | one i => exact h.un
  | two i j => exact (EnvAt.un h).un
/-- the places of an environment are there -/
theorem EnvOk.live (eo : EnvOk G cx κ g s.heap env ρ) (hv : ∀ x i ds, cx.Γ.lookup x = some i → ρ[i]? = some (.own ds) → cx.var x = true) {a : Addr} (h : EnvAt cx κ env ρ a) : ∃ o, s.heap.get? a = some o := by
  rcases h with rfl | ⟨x, h⟩ | ⟨x, i, ds, h1, h2, rfl⟩
  · obtain ⟨m, ⟨o, es, ep, ho, _⟩, _⟩ := eo.vars; exact ⟨o, ho⟩
  · obtain ⟨_, _, w, o, ho, _⟩ := eo.cc x a h; exact ⟨o, ho⟩
  · have hk := hv x i ds h1 h2
    unfold Cx.var at hk
    simp only [Bool.or_eq_true, beq_iff_eq] at hk
    rcases hk with (hk | hk) | hk
    · obtain ⟨m, hns, f⟩ := eo.vars
      obtain ⟨v, _, vs, _, ⟨n, p⟩, _⟩ := f x i _ h1 h2 (by simp) hk
      exact ⟨_, p⟩
    · obtain ⟨_, v, _, _, vs, _, ⟨n, p⟩, _⟩ := eo.cells x i _ h1 h2 (by simp) (.inl hk)
      exact ⟨_, p⟩
    · obtain ⟨_, v, _, _, vs, _, ⟨n, p⟩, _⟩ := eo.cells x i _ h1 h2 (by simp) (.inr hk)
      exact ⟨_, p⟩
theorem bindT_clr {t : Tgt} {x : PyData} (h : bindT t x ρ = some ρ') : clrT t ρ' = clrT t ρ := by
  cases t with
  | one i =>
    simp only [bindT, Option.some.injEq] at h
    subst h
    show (ρ.set i _).set i _ = ρ.set i _
    rw [List.set_set]
  | two i j =>
    cases x with
    | tuple ys =>
      match ys, h with
      | [a, c], h =>
        simp only [bindT, Option.some.injEq] at h
        subst h
        show (((ρ.set i _).set j _).set i .un).set j .un = (ρ.set i .un).set j .un
        apply List.ext_getElem?
        intro k
        simp only [List.getElem?_set, List.length_set]
        (repeat' split) <;> first | rfl | simp_all
      | [], h => simp [bindT] at h
      | [_], h => simp [bindT] at h
      | _ :: _ :: _ :: _, h => simp [bindT] at h
    | _ => simp [bindT] at h
theorem EnvAt.ofBind {t : Tgt} {x : PyData} {a : Addr} (h : bindT t x ρ = some ρ') (e : EnvAt cx κ env ρ' a) : EnvAt cx κ env (clrT t ρ) a := by
  rcases e with e | e | ⟨y, j, ds, h1, h2, h3⟩
  · exact .inl e
  · exact .inr (.inl e)
  · refine .inr (.inr ⟨y, j, ds, h1, ?_, h3⟩)
    cases t with
    | one i =>
      simp only [bindT, Option.some.injEq] at h
      subst h
      rcases set_get h2 with ⟨_, z⟩ | ⟨n, h2⟩
      · cases z
      · show (ρ.set i .un)[j]? = _
        rw [List.getElem?_set, if_neg n]; exact h2
    | two i k =>
      cases x with
      | tuple ys =>
        match ys, h with
        | [a, c], h =>
          simp only [bindT, Option.some.injEq] at h
          subst h
          rcases set_get h2 with ⟨_, z⟩ | ⟨n, h2⟩
          · cases z
          · rcases set_get h2 with ⟨_, z⟩ | ⟨n', h2⟩
            · cases z
            · show ((ρ.set i .un).set k .un)[j]? = _
              rw [List.getElem?_set, if_neg n, List.getElem?_set, if_neg n']; exact h2
        | [], h => simp [bindT] at h
        | [_], h => simp [bindT] at h
        | _ :: _ :: _ :: _, h => simp [bindT] at h
      | _ => simp [bindT] at h
theorem EnvOk.locals_live (eo : EnvOk G cx κ g s.heap env ρ) : ∃ o, s.heap.get? env.locals = some o := by
  obtain ⟨m, ⟨o, es, ep, ho, _⟩, _⟩ := eo.vars; exact ⟨o, ho⟩
theorem clr_bindT {t : Tgt} {x : PyData} : bindT t x (clrT t ρ) = bindT t x ρ := by
  cases t with
  | one i =>
    show some ((ρ.set i _).set i _) = some (ρ.set i _)
    rw [List.set_set]
  | two i j =>
    cases x with
    | tuple ys =>
      match ys with
      | [a, c] =>
        show some ((((ρ.set i .un).set j .un).set i _).set j _) = some ((ρ.set i _).set j _)
        congr 1
        apply List.ext_getElem?
        intro k
        simp only [List.getElem?_set, List.length_set]
        (repeat' split) <;> first | rfl | simp_all
      | [] => rfl
      | [_] => rfl
      | _ :: _ :: _ :: _ => rfl
    | _ => rfl
theorem clr_comm {t u : Tgt} : clrT t (clrT u ρ) = clrT u (clrT t ρ) := by
  have un : ∀ (ρ : List Bnd) (i j : Nat), (ρ.set i .un).set j .un = (ρ.set j .un).set i .un := fun ρ i j => by
    apply List.ext_getElem?
    intro k
    simp only [List.getElem?_set, List.length_set]
    (repeat' split) <;> first | rfl | (first | lia | omega) | (simp_all; (first | lia | omega)) | simp_all
  cases t with
  | one i => cases u with
    | one j => exact un ρ j i
    | two j k =>
      show ((ρ.set j .un).set k .un).set i .un = ((ρ.set i .un).set j .un).set k .un
      rw [un (ρ.set j .un) k i, un ρ j i]
  | two i l => cases u with
    | one j =>
      show ((ρ.set j .un).set i .un).set l .un = ((ρ.set i .un).set l .un).set j .un
      rw [un ρ j i, un (ρ.set i .un) j l]
    | two j k =>
      show (((ρ.set j .un).set k .un).set i .un).set l .un = (((ρ.set i .un).set l .un).set j .un).set k .un
      rw [un (ρ.set j .un) k i, un ρ j i, un ((ρ.set i .un).set j .un) k l, un (ρ.set i .un) j l]
theorem clr_clr {t : Tgt} : clrT t (clrT t ρ) = clrT t ρ := by
  cases t with
  | one i =>
    show (ρ.set i _).set i _ = ρ.set i _
    rw [List.set_set]
  | two i j =>
    show (((ρ.set i .un).set j .un).set i .un).set j .un = (ρ.set i .un).set j .un
    apply List.ext_getElem?
    intro k
    simp only [List.getElem?_set, List.length_set]
    (repeat' split) <;> first | rfl | simp_all
end

/-! the list in the making *)-/
structure CF (G : Cfg) (C : Addr) (s₂ : Shared) (g₂ : Heap) (wr : List Addr) (D : Addr) (σ' : Sg) (ds : List PyData) (s' : Shared) (g' : Heap) : Prop where
  same : ∃ h' tk, s' = { s₂ with heap := h', toks := tk }
  keep : ∀ b o, b ≠ G.c → b ∉ wr → b ≠ D → b ≠ C → s₂.heap.get? b = some o → s'.heap.get? b = some o
  grow : Sub g₂ g'
  fresh : ∀ b o, g'.get? b = some o → g₂.get? b = some o ∨ s₂.heap.get? b = none
  inv : Inv G g' σ' s'
  acc : ∃ ws, s'.heap.PlainList D ws ∧ IsAll g' ws.toList ds
  accg : g'.get? D = none
structure CI (G : Cfg) (C : Addr) (s₂ : Shared) (g₂ : Heap) (wr : List Addr) (D : Addr) (σ' : Sg) (ds : List PyData) (s' : Shared) (g' : Heap) : Prop extends CF G C s₂ g₂ wr D σ' ds s' g' where
  wl : ∀ b ∈ wr, ∃ o, s'.heap.get? b = some o
section
variable {G : Cfg} {cx : Cx} {κ : Anc} {A : Around} {s₂ s' s'' : Shared} {g₂ g' g'' : Heap} {σ' σ'' : Sg} {wr : List Addr} {C D : Addr} {ds : List PyData}
theorem CI.stp (c : CI G C s₂ g₂ wr D σ' ds s' g') (hDc : D ≠ G.c) (hwc : G.c ∉ wr) (hC : ∃ o, s'.heap.get? C = some o) (st : Stp G s' g' σ'' s'' g'') : CI G C s₂ g₂ wr D σ'' ds s'' g'' := by
  obtain ⟨ws, ⟨n, hp⟩, hi⟩ := c.acc
  have dead : ∀ b, s'.heap.get? b = none → b ≠ G.c → s₂.heap.get? b = none := fun b e hb => by
    cases q : s₂.heap.get? b with
    | none => rfl
    | some o =>
      by_cases hw : b ∈ wr
      · obtain ⟨o', e'⟩ := c.wl b hw; rw [e] at e'; cases e'
      · by_cases hD : b = D
        · rw [hD, hp] at e; cases e
        · by_cases hc : b = C
          · obtain ⟨o', e'⟩ := hC; rw [← hc, e] at e'; cases e'
          · rw [c.keep b o hb hw hD hc q] at e; cases e
  refine ⟨⟨?_, fun b o h1 h2 h3 h4 e => st.keep b o h1 (c.keep b o h1 h2 h3 h4 e), c.grow.trans st.grow, fun b o e => ?_, st.inv, ⟨ws, ⟨n, st.keep _ _ hDc hp⟩, hi.mono st.grow⟩, st.gone c.accg hp⟩, fun b hb => ?_⟩
  · obtain ⟨h1, t1, rfl⟩ := c.same
    obtain ⟨h2, t2, rfl⟩ := st.same
    exact ⟨h2, t2, rfl⟩
  · rcases st.fresh b o e with e' | e'
    · exact c.fresh b o e'
    · refine .inr (dead b e' ?_)
      rintro rfl
      rw [st.inv.gc] at e; cases e
  · obtain ⟨o, e⟩ := c.wl b hb
    exact ⟨o, st.keep b o (fun z => hwc (z ▸ hb)) e⟩
theorem CF.move {M : Addr → Prop} (c : CF G C s₂ g₂ wr D σ' ds s' g') (m : Moved M s' s'') (hM : ∀ b, M b → g'.get? b = none ∧ b ≠ G.c ∧ b ≠ D ∧ (s₂.heap.get? b = none ∨ b ∈ wr ∨ b = C)) : CF G C s₂ g₂ wr D σ' ds s'' g' := by
  obtain ⟨ws, ⟨n, hp⟩, hi⟩ := c.acc
  have inv := c.inv.moved m fun b hb => ⟨(hM b hb).1, (hM b hb).2.1⟩
  obtain ⟨h', tk, rfl, k⟩ := m
  refine ⟨?_, fun b o h1 h2 h3 h4 e => k b o (fun z => ?_) (c.keep b o h1 h2 h3 h4 e), c.grow, c.fresh, inv, ⟨ws, ⟨n, k _ _ (fun z => (hM _ z).2.2.1 rfl) hp⟩, hi⟩, c.accg⟩
  · obtain ⟨h1, t1, rfl⟩ := c.same
    exact ⟨h', tk, rfl⟩
  · rcases (hM b z).2.2.2 with q | q | q
    · rw [e] at q; cases q
    · exact h2 q
    · exact h4 q
theorem CI.move {M : Addr → Prop} (c : CI G C s₂ g₂ wr D σ' ds s' g') (m : Moved M s' s'') (hM : ∀ b, M b → g'.get? b = none ∧ b ≠ G.c ∧ b ≠ D ∧ (s₂.heap.get? b = none ∨ b ∈ wr ∨ b = C)) (hw : ∀ b ∈ wr, ∃ o, s''.heap.get? b = some o) : CI G C s₂ g₂ wr D σ' ds s'' g' :=
  ⟨c.toCF.move m hM, hw⟩
theorem append_run {D : Addr} {ws : Array Value} {v : Value} {Q : Value → Shared → Prop} {F : Value → Shared → Prop} {s : Shared} (hp : s.heap.PlainList D ws) (hz : ws.size ≤ sizeLine) (q : ∀ h', h'.PlainList D (ws.push v) → Heap.SameBut D s.heap h' → Q .none { s with heap := h' }) :
    wpAny (model G.prog G.w) A (call (.builtin "list.append") [.ref D, v]) Q F s := by
  obtain ⟨n, hp⟩ := hp
  refine wpAny_call_entry slot_list_append ⟨_, hp, rfl⟩ entry_list_append ?_ (args_list_append _ _)
  show wpAny _ _ (updateSeq D (·.push v) >>= fun _ => ret .none) _ _ s
  refine wpAny_bind ?_
  refine wpAny_updateSeq hp rfl (wpAny_pure ⟨.none, rfl, q _ ?_ (Heap.SameBut.update ..)⟩)
  have := get?_update_seq hp (·.push v)
  exact ⟨_, this⟩
theorem CI.append (c : CI G C s₂ g₂ wr D σ' ds s' g') (hDc : D ≠ G.c) (hDw : D ∉ wr) {v : Value} {x : PyData} (hv : Is g' v x) (hz : ds.length ≤ lim) {Q : Value → Shared → Prop} {F : Value → Shared → Prop}
    (q : ∀ s'', CI G C s₂ g₂ wr D σ' (ds ++ [x]) s'' g' → Moved (· = D) s' s'' → Q .none s'') : wpAny (model G.prog G.w) A (call (.builtin "list.append") [.ref D, v]) Q F s' := by
  obtain ⟨ws, hp, hi⟩ := c.acc
  have hlen : ws.size = ds.length := by have := hi.length; simpa using this
  refine append_run hp (lim_line (by (first | lia | omega))) fun h' hp' hs => ?_
  have m : Moved (· = D) s' { s' with heap := h' } := ⟨h', s'.toks, rfl, fun b o hb e => (hs.2 b hb).trans e⟩
  have inv := c.inv.moved m fun b hb => by rw [hb]; exact ⟨c.accg, hDc⟩
  refine q _ ⟨⟨?_, fun b o h1 h2 h3 h4 e => (hs.2 b h3).trans (c.keep b o h1 h2 h3 h4 e), c.grow, c.fresh, inv, ⟨_, hp', ?_⟩, c.accg⟩, fun b hb => ?_⟩ m
  · obtain ⟨h1, t1, rfl⟩ := c.same
    exact ⟨h', _, rfl⟩
  · rw [Array.toList_push]; exact hi.append (.one hv)
  · obtain ⟨o, e⟩ := c.wl b hb
    exact ⟨o, (hs.2 b fun z => hDw (z ▸ hb)).trans e⟩
end
end Mine

namespace Mine
open PySem PySem.W PyProof.Rows PySem.Calls

structure LoopCtx (W : Wd) (A : Around) (cx : Cx) (κ : Anc) (env : Env) (ρ₀ : List Bnd) (target : Expr) (t : Tgt) (s₂ : Shared) (g₂ : Heap) (I : Addr) (xs : List PyData) (D : Addr) (fp wr : List Addr)
    (P Md : Nat → Value → Heap → Prop) (St : Nat → Heap → Prop) : Prop where
  hh : A.handled = none
  rm : Room A W.n
  kt : KTurns W.G.prog W.G.w A target I fp wr xs.length P Md St
  item : ∀ i v h', P i v h' → ∃ x, xs[i]? = some x ∧ Drawn g₂ h' (tgtOwn t) v x
  wg : ∀ b ∈ wr, g₂.get? b = none ∧ ∃ o, s₂.heap.get? b = some o
  fpg : ∀ b ∈ fp, b ∈ wr ∨ ∃ o, g₂.get? b = some o
  live : ∀ i h', St i h' → ∀ b ∈ wr, ∃ o, h'.get? b = some o
  ew : ∀ b, EnvAt cx κ env ρ₀ b → b ∉ wr
  eD : ∀ b, EnvAt cx κ env ρ₀ b → b ≠ D
  Dc : D ≠ W.G.c
  Dw : D ∉ wr
  cw : W.G.c ∉ wr
  tgt : TgtOk false cx target t

section
variable {W : Wd} {A : Around} {cx : Cx} {κ : Anc} {env : Env} {ρ ρ' : List Bnd} {target : Expr} {t : Tgt} {s₂ s' : Shared} {g₂ g' : Heap} {I : Addr} {xs : List PyData} {D : Addr} {fp wr : List Addr}
  {P Md : Nat → Value → Heap → Prop} {St : Nat → Heap → Prop} {σ' σ'' : Sg} {ds : List PyData} {i : Nat}
theorem Drawn.mono {g g' h : Heap} {own : Bool} {v : Value} {x : PyData} (d : Drawn g h own v x) (s : Sub g g') : Drawn g' h own v x := by
  rcases d with d | ⟨o, T, vals, ys, e1, e2, h1, h2⟩
  · exact .inl (d.mono s)
  · exact .inr ⟨o, T, vals, ys, e1, e2, h1, h2.mono s⟩
theorem LoopCtx.gw (L : LoopCtx W A cx κ env ρ target t s₂ g₂ I xs D fp wr P Md St) (c : CI W.G env.locals s₂ g₂ wr D σ' ds s' g') : ∀ b ∈ wr, g'.get? b = none := fun b hb => by
  cases q : g'.get? b with
  | none => rfl
  | some o =>
    obtain ⟨h1, o', h2⟩ := L.wg b hb
    rcases c.fresh b o q with e | e
    · rw [h1] at e; cases e
    · rw [h2] at e; cases e
/-- the next item, bound -/
theorem LoopCtx.next (L : LoopCtx W A cx κ env (clrT t ρ) target t s₂ g₂ I xs D fp wr P Md St) (c : CI W.G env.locals s₂ g₂ wr D σ' ds s' g') (eo : EnvOk W.G cx κ g' s'.heap env (clrT t ρ)) (hst : St i s'.heap) (hi : i < xs.length) {x : PyData} (hx : xs[i]? = some x)
    (hb : bindT t x ρ = some ρ') {Q : Option Value → Shared → Prop} {F : Value → Shared → Prop}
    (q : ∀ v s₁, wpAny (model W.G.prog W.G.w) A (letOwnedTupleGo target (.ref I) v) (fun _ s₀ => wpAny (model W.G.prog W.G.w) A (assign target env v) (fun _ s'' => CI W.G env.locals s₂ g₂ wr D σ' ds s'' g' ∧ EnvOk W.G cx κ g' s''.heap env ρ' ∧ St (i + 1) s''.heap) F s₀) F s₁ → Q (some v) s₁) :
    wpAny (model W.G.prog W.G.w) A (pyNext (.ref I)) Q F s' := by
  obtain ⟨h0, t0, e0⟩ := c.same
  refine L.kt.item i s' Q F hi hst fun v h' tk hM hk => q v _ (L.kt.go i v _ _ _ hM fun h'' hP hS hk' => ?_)
  have m : Moved (· ∈ wr) s' { s' with heap := h'', toks := tk } := ⟨h'', tk, rfl, fun b o hb e => hk' b o hb (hk b o hb e)⟩
  have c₁ : CI W.G env.locals s₂ g₂ wr D σ' ds { s' with heap := h'', toks := tk } g' := c.move m (fun b hb => ⟨L.gw c b hb, fun z => L.cw (z ▸ hb), fun z => L.Dw (z ▸ hb), .inr (.inl hb)⟩) (L.live _ _ hS)
  have eo₁ : EnvOk W.G cx κ g' h'' env (clrT t ρ) := eo.moved m L.ew
  obtain ⟨x', hx', dr⟩ := L.item i v h'' hP
  rw [hx] at hx'; cases hx'
  refine bind_run (s := { s' with heap := h'', toks := tk }) L.hh L.tgt c₁.inv eo₁ (dr.mono c.grow) (by rw [clr_bindT]; exact hb) fun s'' m₂ eo₂ => ?_
  have mC : ∀ b, Wr false cx env b → b = env.locals := fun b h => by
    rcases h with h | ⟨h, _⟩
    · exact h
    · cases h
  have hCw : env.locals ∉ wr := L.ew _ (.inl rfl)
  obtain ⟨h3, t3, e3, k3⟩ := m₂
  subst e3
  refine ⟨c₁.move ⟨h3, t3, rfl, k3⟩ (fun b hb => ?_) (fun b hb => ?_), eo₂, L.kt.frame _ _ _ hS fun b hb o e => k3 b o (fun z => ?_) e⟩
  · rw [mC b hb]
    exact ⟨eo₁.lg, eo₁.lc, L.eD _ (.inl rfl), .inr (.inr rfl)⟩
  · obtain ⟨o, e⟩ := c₁.wl b hb
    exact ⟨o, k3 b o (fun z => hCw (mC b z ▸ hb)) e⟩
  · have hz := mC b z
    subst hz
    rcases L.fpg _ hb with q | ⟨o', q⟩
    · exact hCw q
    · have := c.grow _ _ q
      rw [eo.lg] at this; cases this
/-- the element is made and put behind -/
theorem LoopCtx.emit (L : LoopCtx W A cx κ env (clrT t ρ) target t s₂ g₂ I xs D fp wr P Md St) {elt : Expr} {e : E} (he : SndE W cx elt e) (c : CI W.G env.locals s₂ g₂ wr D σ' ds s' g') (eo : EnvOk W.G cx κ g' s'.heap env ρ') (hr : clrT t ρ' = clrT t ρ) (hst : St i s'.heap)
    {d : PyData} (hv : oneD (ev W.glo W.R e ρ' σ') = some (d, σ'')) (hz : ds.length ≤ lim) {F : Value → Shared → Prop} :
    wpAny (model W.G.prog W.G.w) A (eval elt env) (fun v s₄ => wpAny (model W.G.prog W.G.w) A (call (.builtin "list.append") [.ref D, v]) (fun _ s₅ => ∃ g₅, CI W.G env.locals s₂ g₂ wr D σ'' (ds ++ [d]) s₅ g₅ ∧ EnvOk W.G cx κ g₅ s₅.heap env (clrT t ρ) ∧ St i s₅.heap) F s₄) F s' := by
  refine (he.oneD L.rm c.inv eo hv).use fun v s₄ g₄ st q => ?_
  have c₄ := c.stp L.Dc L.cw eo.locals_live st
  have eo₄ := (eo.step st).clr t
  rw [hr] at eo₄
  refine c₄.append L.Dc L.Dw q hz fun s₅ c₅ m => ⟨g₄, c₅, eo₄.moved m L.eD, ?_⟩
  obtain ⟨h5, t5, rfl, k5⟩ := m
  refine L.kt.frame _ _ _ hst fun b hb o e => ?_
  have hbg : ∀ o', g₂.get? b = some o' → b ≠ D ∧ b ≠ W.G.c := fun o' q => by
    constructor
    · rintro rfl
      have := c₄.grow _ _ q
      rw [c₄.accg] at this; cases this
    · rintro rfl
      have := c₄.grow _ _ q
      rw [st.inv.gc] at this; cases this
  have hb2 : b ≠ D ∧ b ≠ W.G.c := by
    rcases L.fpg b hb with q | ⟨o', q⟩
    · exact ⟨fun z => L.Dw (z ▸ q), fun z => L.cw (z ▸ q)⟩
    · exact hbg o' q
  exact k5 b o hb2.1 (st.keep b o hb2.2 e)
theorem LoopCtx.stp (L : LoopCtx W A cx κ env (clrT t ρ) target t s₂ g₂ I xs D fp wr P Md St) {s₄ : Shared} {g₄ : Heap} (c : CI W.G env.locals s₂ g₂ wr D σ' ds s' g') (st : Stp W.G s' g' σ'' s₄ g₄) (hst : St i s'.heap) : St i s₄.heap := by
  refine L.kt.frame _ _ _ hst fun b hb o e => st.keep b o ?_ e
  rcases L.fpg b hb with q | ⟨o', q⟩
  · exact fun z => L.cw (z ▸ q)
  · rintro rfl
    have := c.grow _ _ q
    rw [c.inv.gc] at this; cases this

noncomputable def LoopIn (W : Wd) (cx : Cx) (κ : Anc) (env : Env) (ρ₀ : List Bnd) (s₂ : Shared) (g₂ : Heap) (xs : List PyData) (D : Addr) (wr : List Addr) (St : Nat → Heap → Prop) (f : PyData → Sg → Option (List PyData × Sg)) (total : List PyData) (σf : Sg) (k : Nat) (s' : Shared) : Prop :=
  ∃ i σ' ds g' rest, k = xs.length + 1 - i ∧ i ≤ xs.length ∧ CI W.G env.locals s₂ g₂ wr D σ' ds s' g' ∧ EnvOk W.G cx κ g' s'.heap env ρ₀ ∧ St i s'.heap ∧ compGo f (xs.drop i) σ' = some (rest, σf) ∧ ds ++ rest = total

theorem drop_at {α : Type} {xs : List α} {i : Nat} (h : i < xs.length) : xs.drop i = xs[i] :: xs.drop (i + 1) := List.drop_eq_getElem_cons h
noncomputable def Fin (W : Wd) (cx : Cx) (κ : Anc) (env : Env) (ρ₀ : List Bnd) (s₂ : Shared) (g₂ : Heap) (wr : List Addr) (D : Addr) (total : List PyData) (σf : Sg) (R : Result → Shared → Prop) : Prop :=
  ∀ s' g', CF W.G env.locals s₂ g₂ wr D σf total s' g' → EnvOk W.G cx κ g' s'.heap env ρ₀ → R (.ok .next) s'
theorem LoopCtx.over (L : LoopCtx W A cx κ env (clrT t ρ) target t s₂ g₂ I xs D fp wr P Md St) {total : List PyData} {σf : Sg} {R : Result → Shared → Prop} (fin : Fin W cx κ env (clrT t ρ) s₂ g₂ wr D total σf R) (c : CI W.G env.locals s₂ g₂ wr D σf total s' g') (eo : EnvOk W.G cx κ g' s'.heap env (clrT t ρ)) (hst : St xs.length s'.heap)
    {Q : Option Value → Shared → Prop} {F : Value → Shared → Prop} (q : ∀ s'', R (.ok .next) s'' → Q none s'') : wpAny (model W.G.prog W.G.w) A (pyNext (.ref I)) Q F s' := by
  obtain ⟨h0, t0, e0⟩ := c.same
  refine L.kt.done s' _ _ hst fun h' tk hk => q _ (fin _ g' (c.toCF.move ⟨h', tk, rfl, hk⟩ fun b hb => ⟨L.gw c b hb, fun z => L.cw (z ▸ hb), fun z => L.Dw (z ▸ hb), .inr (.inl hb)⟩) ?_)
  have m : Moved (· ∈ wr) s' { s' with heap := h', toks := tk } := ⟨h', tk, rfl, hk⟩
  exact eo.moved m L.ew
/-- one clause, no test -/
theorem LoopCtx.loop0 (L : LoopCtx W A cx κ env (clrT t ρ) target t s₂ g₂ I xs D fp wr P Md St) {elt iter : Expr} {scope : Scope} {pos : Pos} {e : E} (he : SndE W cx elt e) {total : List PyData} {σf : Sg} (hz : total.length ≤ lim) {R : Result → Shared → Prop}
    (fin : Fin W cx κ env (clrT t ρ) s₂ g₂ wr D total σf R) {k : Nat} {s' : Shared}
    (h : LoopIn W cx κ env (clrT t ρ) s₂ g₂ xs D wr St (fun x σ => (bindT t x ρ).bind fun ρ' => (oneD (ev W.glo W.R e ρ' σ)).bind fun p => some ([p.1], p.2)) total σf k s') :
    codeAny (model W.G.prog W.G.w) A (.compLoop (.ListComp elt [⟨target, iter, [], 0⟩] scope pos) 0 (.ref I) (.ref D) env) R s' := by
  refine kcp_loop _ (fun k s' h => ?_) k h
  obtain ⟨i, σ', ds, g', rest, rfl, hi, c, eo, hst, hg, ht⟩ := h
  rcases Nat.lt_or_ge i xs.length with hlt | hge
  · rw [drop_at hlt, compGo] at hg
    obtain ⟨⟨r1, σ₁⟩, h1, hg2⟩ := Option.bind_eq_some_iff.mp hg
    obtain ⟨⟨q1, σ₂⟩, h2, hg3⟩ := Option.bind_eq_some_iff.mp hg2
    obtain ⟨ρ', hb, h3⟩ := Option.bind_eq_some_iff.mp h1
    obtain ⟨⟨d, σ₃⟩, hv, h4⟩ := Option.bind_eq_some_iff.mp h3
    simp only [Option.some.injEq, Prod.mk.injEq] at h4
    obtain ⟨rfl, rfl⟩ := h4
    simp only [Option.some.injEq, Prod.mk.injEq] at hg3
    obtain ⟨rfl, rfl⟩ := hg3
    have hl : ds.length ≤ lim := by rw [← ht] at hz; simp at hz; omega
    refine L.next c eo hst hlt (by simp [hlt]) hb fun v s₁ hw => ?_
    refine wpAny_mono hw (fun _ s₀ hw => ?_) fun _ _ f => f
    refine wpAny_mono hw (fun _ s₃ ⟨c₃, eo₃, st₃⟩ => ?_) fun _ _ f => f
    refine wpAny_mono (L.emit he c₃ eo₃ (bindT_clr hb) st₃ hv hl) (fun v s₄ hw => ?_) fun _ _ f => f
    refine wpAny_mono hw (fun _ s₅ ⟨g₅, c₅, eo₅, st₅⟩ => ?_) fun _ _ f => f
    exact ⟨xs.length + 1 - (i + 1), by omega, i + 1, σ₃, ds ++ [d], g₅, q1, rfl, hlt, c₅, eo₅, st₅, h2, by rw [← ht]; simp⟩
  · have hi' : i = xs.length := by omega
    subst hi'
    rw [List.drop_length, compGo] at hg
    simp only [Option.some.injEq, Prod.mk.injEq] at hg
    obtain ⟨rfl, rfl⟩ := hg
    rw [List.append_nil] at ht
    subst ht
    exact L.over fin c eo hst fun s'' h => h
/-- one clause, a test -/
theorem LoopCtx.loop1 (L : LoopCtx W A cx κ env (clrT t ρ) target t s₂ g₂ I xs D fp wr P Md St) {elt iter test : Expr} {scope : Scope} {pos : Pos} {e c : E} (he : SndE W cx elt e) (hc : SndB W cx test c) {total : List PyData} {σf : Sg} (hz : total.length ≤ lim) {R : Result → Shared → Prop}
    (fin : Fin W cx κ env (clrT t ρ) s₂ g₂ wr D total σf R) {k : Nat} {s' : Shared}
    (h : LoopIn W cx κ env (clrT t ρ) s₂ g₂ xs D wr St (fun x σ => (bindT t x ρ).bind fun ρ' => (oneB (ev W.glo W.R c ρ' σ)).bind fun q => if q.1 then (oneD (ev W.glo W.R e ρ' q.2)).bind fun p => some ([p.1], p.2) else some ([], q.2)) total σf k s') :
    codeAny (model W.G.prog W.G.w) A (.compLoop (.ListComp elt [⟨target, iter, [test], 0⟩] scope pos) 0 (.ref I) (.ref D) env) R s' := by
  refine kct_loop _ (fun k s' h => ?_) k h
  obtain ⟨i, σ', ds, g', rest, rfl, hi, ci, eo, hst, hg, ht⟩ := h
  rcases Nat.lt_or_ge i xs.length with hlt | hge
  · rw [drop_at hlt, compGo] at hg
    obtain ⟨⟨r1, σ₁⟩, h1, hg2⟩ := Option.bind_eq_some_iff.mp hg
    obtain ⟨⟨q1, σ₂⟩, h2, hg3⟩ := Option.bind_eq_some_iff.mp hg2
    obtain ⟨ρ', hb, h3⟩ := Option.bind_eq_some_iff.mp h1
    obtain ⟨⟨tt, σ₃⟩, hv, h4⟩ := Option.bind_eq_some_iff.mp h3
    refine L.next ci eo hst hlt (by simp [hlt]) hb fun v s₁ hw => ?_
    refine wpAny_mono hw (fun _ s₀ hw => ?_) fun _ _ f => f
    refine wpAny_mono hw (fun _ s₃ ⟨c₃, eo₃, st₃⟩ => ?_) fun _ _ f => f
    refine wpAny_mono (hc A s₃ g' σ' env ρ' tt σ₃ L.rm c₃.inv eo₃ hv) (fun b s₄ ⟨g₄, st, eb⟩ => ?_) fun _ _ f => f.elim
    subst eb
    have c₄ := c₃.stp L.Dc L.cw eo₃.locals_live st
    have hS₄ := L.stp c₃ st st₃
    cases b with
    | true =>
      rw [if_pos rfl]
      simp only [if_true] at h4
      obtain ⟨⟨d, σ₄⟩, hv4, h5⟩ := Option.bind_eq_some_iff.mp h4
      simp only [Option.some.injEq, Prod.mk.injEq] at h5
      obtain ⟨rfl, rfl⟩ := h5
      simp only [Option.some.injEq, Prod.mk.injEq] at hg3
      obtain ⟨rfl, rfl⟩ := hg3
      have hl : ds.length ≤ lim := by rw [← ht] at hz; simp at hz; omega
      refine wpAny_mono (L.emit he c₄ (eo₃.step st) (bindT_clr hb) hS₄ hv4 hl) (fun v s₅ hw => ?_) fun _ _ f => f
      refine wpAny_mono hw (fun _ s₆ ⟨g₆, c₆, eo₆, st₆⟩ => ?_) fun _ _ f => f
      exact ⟨xs.length + 1 - (i + 1), by omega, i + 1, σ₄, ds ++ [d], g₆, q1, rfl, hlt, c₆, eo₆, st₆, h2, by rw [← ht]; simp⟩
    | false =>
      rw [if_neg (by simp)]
      simp only [Bool.false_eq_true, if_false, Option.some.injEq, Prod.mk.injEq] at h4
      obtain ⟨rfl, rfl⟩ := h4
      simp only [Option.some.injEq, Prod.mk.injEq, List.nil_append] at hg3
      obtain ⟨rfl, rfl⟩ := hg3
      have eo₄ := (eo₃.step st).clr t
      rw [bindT_clr hb] at eo₄
      exact ⟨xs.length + 1 - (i + 1), by omega, i + 1, σ₃, ds, g₄, q1, rfl, hlt, c₄, eo₄, hS₄, h2, ht⟩
  · have hi' : i = xs.length := by omega
    subst hi'
    rw [List.drop_length, compGo] at hg
    simp only [Option.some.injEq, Prod.mk.injEq] at hg
    obtain ⟨rfl, rfl⟩ := hg
    rw [List.append_nil] at ht
    subst ht
    exact L.over fin ci eo hst fun s'' h => h
end
end Mine

namespace Mine
open PySem PySem.W PyProof.Rows PySem.Calls

section
variable {prog : Program} {w : World} {A : Around} {R : Result → Shared → Prop} {s : Shared}
theorem start1 {elt : Expr} {g1 : Comprehension} {target iter : Expr} {ifs : List Expr} {scope : Scope} {pos : Pos} {it acc : Value} {env : Env}
    (h0 : codeAny (model prog w) A (.compLoop (.ListComp elt [g1, ⟨target, iter, ifs, 0⟩] scope pos) 1 it acc env) R s)
    (h : wpAny (model prog w) A (pyIter it) (fun it' s' => codeAny (model prog w) A (.compLoop (.ListComp elt [g1, ⟨target, iter, ifs, 0⟩] scope pos) 1 it' acc env) R s') (notedBy (model prog w) A env fun x s' => R (.error x) s') s) :
    codeAny (model prog w) A (.compStart (.ListComp elt [g1, ⟨target, iter, ifs, 0⟩] scope pos) 1 it acc env) R s := by
  refine codeAny_of_tree ?_
  show wpAny _ _ ((compStart (.ListComp elt [g1, ⟨target, iter, ifs, 0⟩] scope pos) 1 it acc env).onRaise (fun x => do noteFrame x env; standAt theWindowsPlace)) _ _ s
  refine wpAny_notedAt ?_
  unfold compStart
  show wpAny _ _ (ask >>= _) _ _ s
  refine wpAny_bind (wpAny_askSetting (wpAny_ite ?_))
  split
  · first
      | exact wpAny_bind (wpAny_pure (wpAny_pure (And.intro rfl h0)))
      | exact wpAny_pure (And.intro rfl h0)
  · first
      | exact wpAny_bind (wpAny_rule (wpAny_bind (wpAny_standAt (wpAny_bind (wpAny_mono h (fun it' s' h' => wpAny_pure (And.intro rfl h')) fun _ _ x => x)))))
      | (refine wpAny_bind (wpAny_rule ?_); show wpAny _ _ (standAt iter.pos >>= _) _ _ s; exact wpAny_bind (wpAny_standAt (wpAny_bind (wpAny_mono h (fun it' s' h' => wpAny_pure (And.intro rfl h')) fun _ _ x => x))))
theorem turn1 (elt target iter : Expr) (g1 : Comprehension) (scope : Scope) (pos : Pos) (it acc : Value) (env : Env) :
    compTurn (.ListComp elt [g1, ⟨target, iter, [], 0⟩] scope pos) 1 it acc env = (standAt iter.pos >>= fun _ => pyNext it >>= fun r => match r with
      | none => pure (.done .next)
      | some v => letOwnedTupleGo target it v >>= fun _ => assign target env v >>= fun _ =>
        (eval elt env >>= fun x => call (.builtin "list.append") [acc, x] >>= fun _ => pure ()) >>= fun _ =>
          again (.compLoop (.ListComp elt [g1, ⟨target, iter, [], 0⟩] scope pos) 1 it acc env)) := by rfl
theorem turn0 (elt target iter : Expr) (t2 i2 : Expr) (scope : Scope) (pos : Pos) (it acc : Value) (env : Env) :
    compTurn (.ListComp elt [⟨target, iter, [], 0⟩, ⟨t2, i2, [], 0⟩] scope pos) 0 it acc env = (standAt iter.pos >>= fun _ => pyNext it >>= fun r => match r with
      | none => pure (.done .next)
      | some v => letOwnedTupleGo target it v >>= fun _ => assign target env v >>= fun _ =>
        eval i2 env >>= fun x => standAt i2.pos >>= fun _ => foldedSetIterable i2 env x >>= fun x => holding [x] (pyIter x) >>= fun it2 => runOwn (.compStart (.ListComp elt [⟨target, iter, [], 0⟩, ⟨t2, i2, [], 0⟩] scope pos) 1 it2 acc env) env >>= fun _ =>
          again (.compLoop (.ListComp elt [⟨target, iter, [], 0⟩, ⟨t2, i2, [], 0⟩] scope pos) 0 it acc env)) := by rfl
theorem k2_inner {elt target iter : Expr} {g1 : Comprehension} {scope : Scope} {pos : Pos} {it acc : Value} {env : Env} (I : Nat → Shared → Prop)
    (turn : ∀ n s, I n s → wpAny (model prog w) A (pyNext it) (fun r s₁ => match r with
      | none => R (.ok .next) s₁
      | some v => wpAny (model prog w) A (letOwnedTupleGo target it v) (fun _ s₀ => wpAny (model prog w) A (assign target env v) (fun _ s₂ =>
          wpAny (model prog w) A (eval elt env) (fun x s₄ => wpAny (model prog w) A (call (.builtin "list.append") [acc, x]) (fun _ s₅ => ∃ m, m < n ∧ I m s₅) (fun _ _ => False) s₄) (fun _ _ => False) s₂) (fun _ _ => False) s₀) (fun _ _ => False) s₁) (fun _ _ => False) s)
    (n : Nat) (h : I n s) : codeAny (model prog w) A (.compLoop (.ListComp elt [g1, ⟨target, iter, [], 0⟩] scope pos) 1 it acc env) R s := by
  refine codeAny_loop rfl I (fun n s hI => ?_) n h
  show wpAny _ A ((compTurn (.ListComp elt [g1, ⟨target, iter, [], 0⟩] scope pos) 1 it acc env).onRaise (fun x => do noteFrame x env; theTreesLotGoes x)) _ _ s
  refine wpAny_noted ?_
  rw [turn1]
  refine wpAny_bind (wpAny_standAt (wpAny_bind (wpAny_mono (turn n s hI) (fun r s₁ h₁ => ?_) fun _ _ h' => h'.elim)))
  cases r with
  | none => exact wpAny_pure h₁
  | some v =>
    refine wpAny_bind (wpAny_mono h₁ (fun _ s₀ h₀' => ?_) fun _ _ h' => h'.elim)
    refine wpAny_bind (wpAny_mono h₀' (fun _ s₂ h₂ => ?_) fun _ _ h' => h'.elim)
    exact wpAny_bind (wpAny_bind (wpAny_mono h₂ (fun x s₄ h₄ => wpAny_bind (wpAny_mono h₄ (fun _ s₅ h₅ => wpAny_pure (wpAny_pure ⟨rfl, h₅⟩)) fun _ _ h' => h'.elim)) fun _ _ h' => h'.elim))
theorem k2_outer {elt target iter t2 i2 : Expr} {scope : Scope} {pos : Pos} {it acc : Value} {env : Env} (I : Nat → Shared → Prop) (hs : ∀ x, foldedSetIterable i2 env x = pure x)
    (turn : ∀ n s, I n s → wpAny (model prog w) A (pyNext it) (fun r s₁ => match r with
      | none => R (.ok .next) s₁
      | some v => wpAny (model prog w) A (letOwnedTupleGo target it v) (fun _ s₀ => wpAny (model prog w) A (assign target env v) (fun _ s₂ =>
          wpAny (model prog w) A (eval i2 env) (fun x s₄ => wpAny (model prog w) A (pyIter x) (fun it2 s₅ =>
            codeAny (model prog w) A (.compStart (.ListComp elt [⟨target, iter, [], 0⟩, ⟨t2, i2, [], 0⟩] scope pos) 1 it2 acc env) (fun r s₆ => match r with | .ok _ => ∃ m, m < n ∧ I m s₆ | .error _ => False) s₅) (fun _ _ => False) s₄) (fun _ _ => False) s₂) (fun _ _ => False) s₀) (fun _ _ => False) s₁) (fun _ _ => False) s)
    (n : Nat) (h : I n s) : codeAny (model prog w) A (.compLoop (.ListComp elt [⟨target, iter, [], 0⟩, ⟨t2, i2, [], 0⟩] scope pos) 0 it acc env) R s := by
  refine codeAny_loop rfl I (fun n s hI => ?_) n h
  show wpAny _ A ((compTurn (.ListComp elt [⟨target, iter, [], 0⟩, ⟨t2, i2, [], 0⟩] scope pos) 0 it acc env).onRaise (fun x => do noteFrame x env; theTreesLotGoes x)) _ _ s
  refine wpAny_noted ?_
  rw [turn0]
  refine wpAny_bind (wpAny_standAt (wpAny_bind (wpAny_mono (turn n s hI) (fun r s₁ h₁ => ?_) fun _ _ h' => h'.elim)))
  cases r with
  | none => exact wpAny_pure h₁
  | some v =>
    refine wpAny_bind (wpAny_mono h₁ (fun _ s₀ h₀' => ?_) fun _ _ h' => h'.elim)
    refine wpAny_bind (wpAny_mono h₀' (fun _ s₂ h₂ => ?_) fun _ _ h' => h'.elim)
    refine wpAny_bind (wpAny_mono h₂ (fun x s₄ h₄ => ?_) fun _ _ h' => h'.elim)
    refine wpAny_bind (wpAny_standAt ?_)
    refine wpAny_bind (wpAny_of_eq (hs x) ?_)
    refine wpAny_bind (wpAny_holding (wpAny_mono h₄ (fun it2 s₅ h₅ => ?_) fun _ _ h' => h'.elim))
    refine wpAny_bind (wpAny_runOwn (codeAny_mono h₅ fun r s₆ h₆ => ?_))
    cases r with
    | ok f => exact wpAny_pure ⟨rfl, h₆⟩
    | error e => exact h₆.elim
end
section
variable {W : Wd} {A : Around} {cx : Cx} {κ : Anc} {env : Env} {ρ ρ' : List Bnd} {target target2 : Expr} {t t2 : Tgt} {s₂ s' : Shared} {g₂ g' : Heap} {I : Addr} {xs : List PyData} {D : Addr} {fp wr : List Addr}
  {P Md : Nat → Value → Heap → Prop} {St : Nat → Heap → Prop} {σ' σ'' : Sg} {ds : List PyData} {i : Nat}
theorem LoopCtx.inner (L : LoopCtx W A cx κ env (clrT t ρ) target t s₂ g₂ I xs D fp wr P Md St) {elt iter : Expr} {g1 : Comprehension} {scope : Scope} {pos : Pos} {e : E} (he : SndE W cx elt e) {total : List PyData} {σf : Sg} (hz : total.length ≤ lim) {R : Result → Shared → Prop}
    (fin : Fin W cx κ env (clrT t ρ) s₂ g₂ wr D total σf R) {k : Nat} {s' : Shared}
    (h : LoopIn W cx κ env (clrT t ρ) s₂ g₂ xs D wr St (fun x σ => (bindT t x ρ).bind fun ρ' => (oneD (ev W.glo W.R e ρ' σ)).bind fun p => some ([p.1], p.2)) total σf k s') :
    codeAny (model W.G.prog W.G.w) A (.compLoop (.ListComp elt [g1, ⟨target, iter, [], 0⟩] scope pos) 1 (.ref I) (.ref D) env) R s' := by
  refine k2_inner _ (fun k s' h => ?_) k h
  obtain ⟨i, σ', ds, g', rest, rfl, hi, c, eo, hst, hg, ht⟩ := h
  rcases Nat.lt_or_ge i xs.length with hlt | hge
  · rw [drop_at hlt, compGo] at hg
    obtain ⟨⟨r1, σ₁⟩, h1, hg2⟩ := Option.bind_eq_some_iff.mp hg
    obtain ⟨⟨q1, σ₂⟩, h2, hg3⟩ := Option.bind_eq_some_iff.mp hg2
    obtain ⟨ρ', hb, h3⟩ := Option.bind_eq_some_iff.mp h1
    obtain ⟨⟨d, σ₃⟩, hv, h4⟩ := Option.bind_eq_some_iff.mp h3
    simp only [Option.some.injEq, Prod.mk.injEq] at h4
    obtain ⟨rfl, rfl⟩ := h4
    simp only [Option.some.injEq, Prod.mk.injEq] at hg3
    obtain ⟨rfl, rfl⟩ := hg3
    have hl : ds.length ≤ lim := by rw [← ht] at hz; simp at hz; omega
    refine L.next c eo hst hlt (by simp [hlt]) hb fun v s₁ hw => ?_
    refine wpAny_mono hw (fun _ s₀ hw => ?_) fun _ _ f => f
    refine wpAny_mono hw (fun _ s₃ ⟨c₃, eo₃, st₃⟩ => ?_) fun _ _ f => f
    refine wpAny_mono (L.emit he c₃ eo₃ (bindT_clr hb) st₃ hv hl) (fun v s₄ hw => ?_) fun _ _ f => f
    refine wpAny_mono hw (fun _ s₅ ⟨g₅, c₅, eo₅, st₅⟩ => ?_) fun _ _ f => f
    exact ⟨xs.length + 1 - (i + 1), by omega, i + 1, σ₃, ds ++ [d], g₅, q1, rfl, hlt, c₅, eo₅, st₅, h2, by rw [← ht]; simp⟩
  · have hi' : i = xs.length := by omega
    subst hi'
    rw [List.drop_length, compGo] at hg
    simp only [Option.some.injEq, Prod.mk.injEq] at hg
    obtain ⟨rfl, rfl⟩ := hg
    rw [List.append_nil] at ht
    subst ht
    exact L.over fin c eo hst fun s'' h => h
/-- two clauses -/
theorem LoopCtx.loop2 (L : LoopCtx W A cx κ env (clrT t (clrT t2 ρ)) target t s₂ g₂ I xs D fp wr P Md St) {elt iter i2 : Expr} {scope : Scope} {pos : Pos} {e it2 : E} (he : SndE W cx elt e) (hI : SndI W cx target2 (tgtOwn t2) i2 it2) (hs : ∀ x, foldedSetIterable i2 env x = pure x)
    (ht2 : TgtOk false cx target2 t2) (hvr : ∀ x i ds, cx.Γ.lookup x = some i → ∀ ρ' : List Bnd, ρ'[i]? = some (.own ds) → cx.var x = true) {total : List PyData} {σf : Sg} (hz : total.length ≤ lim) {R : Result → Shared → Prop}
    (fin : Fin W cx κ env (clrT t (clrT t2 ρ)) s₂ g₂ wr D total σf R) {k : Nat} {s' : Shared}
    (h : LoopIn W cx κ env (clrT t (clrT t2 ρ)) s₂ g₂ xs D wr St (fun x σ => (bindT t x (clrT t2 ρ)).bind fun ρ' => (oneL (ev W.glo W.R it2 ρ' σ)).bind fun q =>
        compGo (fun y σ => (bindT t2 y ρ').bind fun ρ'' => (oneD (ev W.glo W.R e ρ'' σ)).bind fun p => some ([p.1], p.2)) q.1 q.2) total σf k s') :
    codeAny (model W.G.prog W.G.w) A (.compLoop (.ListComp elt [⟨target, iter, [], 0⟩, ⟨target2, i2, [], 0⟩] scope pos) 0 (.ref I) (.ref D) env) R s' := by
  refine k2_outer _ hs (fun k s' h => ?_) k h
  obtain ⟨i, σ', ds, g', rest, rfl, hi, c, eo, hst, hg, ht⟩ := h
  rcases Nat.lt_or_ge i xs.length with hlt | hge
  · rw [drop_at hlt, compGo] at hg
    obtain ⟨⟨r1, σ₁⟩, h1, hg2⟩ := Option.bind_eq_some_iff.mp hg
    obtain ⟨⟨q1, σ₂⟩, h2, hg3⟩ := Option.bind_eq_some_iff.mp hg2
    obtain ⟨ρ', hb, h3⟩ := Option.bind_eq_some_iff.mp h1
    obtain ⟨⟨ys, σ₃⟩, hv, h4⟩ := Option.bind_eq_some_iff.mp h3
    simp only [Option.some.injEq, Prod.mk.injEq] at hg3
    obtain ⟨rfl, rfl⟩ := hg3
    have hb' := hb
    refine L.next c eo hst hlt (by simp [hlt]) hb fun v s₁ hw => ?_
    refine wpAny_mono hw (fun _ s₀ hw => ?_) fun _ _ f => f
    refine wpAny_mono hw (fun _ s₃ ⟨c₃, eo₃, st₃⟩ => ?_) fun _ _ f => f
    refine wpAny_mono (hI A s₃ g' σ' env ρ' ys σ₃ L.hh L.rm c₃.inv eo₃ hv) (fun v s₄ hw => ?_) fun _ _ f => f
    refine wpAny_mono hw (fun itv s₅ ⟨g₅, J, ej, st, K⟩ => ?_) fun _ _ f => f
    subst ej
    obtain ⟨fp', wr', P', Md', St', kt', hst', hitem', hwr', hfp', hself', hlive'⟩ := K.ex
    have c₅ := c₃.stp L.Dc L.cw eo₃.locals_live st
    have S₅ := L.stp c₃ st st₃
    have eo₅ := eo₃.step st
    obtain ⟨ws, ⟨nD, hpD⟩, hiD⟩ := c₃.acc
    have lv := fun b (hb : EnvAt cx κ env ρ' b) => eo₃.live (fun x i ds h1 h2 => hvr x i ds h1 ρ' h2) hb
    have L' : LoopCtx W A cx κ env (clrT t2 ρ') target2 t2 s₅ g₅ J ys D fp' wr' P' Md' St' := by
      refine ⟨L.hh, L.rm, kt', hitem', fun b hb => (hwr' b hb).2, hfp', hlive', fun b hb hw => ?_, fun b hb => ?_, L.Dc, fun z => ?_, fun z => ?_, ht2⟩
      · obtain ⟨o, ho⟩ := lv b (EnvAt.clr hb)
        have := (hwr' b hw).1
        rw [ho] at this; cases this
      · exact L.eD b (EnvAt.ofBind hb' (EnvAt.clr hb))
      · have := (hwr' D z).1
        rw [hpD] at this; cases this
      · obtain ⟨o, _, _, ho, _⟩ := c₃.inv.shr.some
        have := (hwr' _ z).1
        rw [ho] at this; cases this
    have hl : (ds ++ r1).length ≤ lim := by rw [← ht] at hz; simp at hz ⊢; omega
    have acc5 : ∃ ws, s₅.heap.PlainList D ws ∧ IsAll g₅ ws.toList ds := c₅.acc
    have start : CI W.G env.locals s₅ g₅ wr' D σ₃ ds s₅ g₅ := ⟨⟨⟨_, _, rfl⟩, fun _ _ _ _ _ _ e => e, Sub.rfl, fun _ _ e => .inl e, c₅.inv, acc5, c₅.accg⟩, fun b hb => (hwr' b hb).2.2⟩
    have fin' : Fin W cx κ env (clrT t2 ρ') s₅ g₅ wr' D (ds ++ r1) σ₁ (fun r s₆ => match r with | .ok _ => ∃ m, m < xs.length + 1 - i ∧ LoopIn W cx κ env (clrT t (clrT t2 ρ)) s₂ g₂ xs D wr St (fun x σ => (bindT t x (clrT t2 ρ)).bind fun ρ' => (oneL (ev W.glo W.R it2 ρ' σ)).bind fun q =>
        compGo (fun y σ => (bindT t2 y ρ').bind fun ρ'' => (oneD (ev W.glo W.R e ρ'' σ)).bind fun p => some ([p.1], p.2)) q.1 q.2) total σ₂ m s₆ | .error _ => False) := by
      intro s₆ g₆ c₆ eo₆
      have wrD : ∀ b o, s₃.heap.get? b = some o → b ∉ wr' := fun b o e z => by have := (hwr' b z).1; rw [e] at this; cases this
      have c7 : CI W.G env.locals s₂ g₂ wr D σ₁ (ds ++ r1) s₆ g₆ := by
        refine ⟨⟨?_, fun b o h1 h2 h3 h4 e => ?_, c₅.grow.trans c₆.grow, fun b o e => ?_, c₆.inv, c₆.acc, c₆.accg⟩, fun b hb => ?_⟩
        · obtain ⟨a1, b1, rfl⟩ := c₅.same
          obtain ⟨a2, b2, rfl⟩ := c₆.same
          exact ⟨a2, b2, rfl⟩
        · have e3 := c₃.keep b o h1 h2 h3 h4 e
          exact c₆.keep b o h1 (wrD b o e3) h3 h4 (st.keep b o h1 e3)
        · rcases c₆.fresh b o e with q | q
          · exact c₅.fresh b o q
          · right
            cases q' : s₂.heap.get? b with
            | none => rfl
            | some o' =>
              exfalso
              have hbc : b ≠ W.G.c := by rintro rfl; rw [c₆.inv.gc] at e; cases e
              have hbD : b ≠ D := by rintro rfl; rw [c₆.accg] at e; cases e
              have hbC : b ≠ env.locals := by rintro rfl; rw [eo₆.lg] at e; cases e
              by_cases hw : b ∈ wr
              · obtain ⟨o2, e2⟩ := c₅.wl b hw; rw [q] at e2; cases e2
              · have := c₅.keep b o' hbc hw hbD hbC q'; rw [q] at this; cases this
        · obtain ⟨o, e⟩ := c₃.wl b hb
          have h1 : b ≠ W.G.c := fun z => L.cw (z ▸ hb)
          exact ⟨o, c₆.keep b o h1 (wrD b o e) (fun z => L.Dw (z ▸ hb)) (fun z => L.ew _ (.inl rfl) (z ▸ hb)) (st.keep b o h1 e)⟩
      have S6 : St (i + 1) s₆.heap := by
        refine L.kt.frame _ _ _ st₃ fun b hb o e => ?_
        have h1 : b ≠ W.G.c ∧ b ≠ D ∧ b ≠ env.locals := by
          rcases L.fpg b hb with q | ⟨o', q⟩
          · exact ⟨fun z => L.cw (z ▸ q), fun z => L.Dw (z ▸ q), fun z => L.ew _ (.inl rfl) (z ▸ q)⟩
          · have q' := c₃.grow _ _ q
            refine ⟨?_, ?_, ?_⟩
            · rintro rfl; rw [c₃.inv.gc] at q'; cases q'
            · rintro rfl; rw [c₃.accg] at q'; cases q'
            · rintro rfl; rw [eo₃.lg] at q'; cases q'
        exact c₆.keep b o h1.1 (wrD b o e) h1.2.1 h1.2.2 (st.keep b o h1.1 e)
      have eo7 := eo₆.clr t
      have er : clrT t (clrT t2 ρ') = clrT t (clrT t2 ρ) := by
        rw [clr_comm, bindT_clr hb', clr_comm (t := t2), clr_clr]
      rw [er] at eo7
      exact ⟨xs.length + 1 - (i + 1), by omega, i + 1, σ₁, ds ++ r1, g₆, q1, rfl, hlt, c7, eo7, S6, h2, by rw [← ht]; simp⟩
    have li : LoopIn W cx κ env (clrT t2 ρ') s₅ g₅ ys D wr' St' (fun y σ => (bindT t2 y ρ').bind fun ρ'' => (oneD (ev W.glo W.R e ρ'' σ)).bind fun p => some ([p.1], p.2)) (ds ++ r1) σ₁ (ys.length + 1) s₅ :=
      ⟨0, σ₃, ds, g₅, r1, rfl, Nat.zero_le _, start, eo₅.clr t2, hst', h4, rfl⟩
    have lp := L'.inner (g1 := ⟨target, iter, [], 0⟩) (iter := i2) (scope := scope) (pos := pos) he hl fin' li
    exact start1 lp (hself' _ _ _ hst' lp)
  · have hi' : i = xs.length := by omega
    subst hi'
    rw [List.drop_length, compGo] at hg
    simp only [Option.some.injEq, Prod.mk.injEq] at hg
    obtain ⟨rfl, rfl⟩ := hg
    rw [List.append_nil] at ht
    subst ht
    exact L.over fin c eo hst fun s'' h => h
end
end Mine

namespace Mine
open PySem PySem.W PyProof.Rows PySem.Calls

noncomputable def relabelS (scope sc : Scope) : Scope :=
  { scope with names := scope.names.map fun (n, k) => if (k == .free && sc.kind == .function && sc.names.lookup n == some .cell) then (n, .cell) else (n, k) }
noncomputable def Cx.comp (cx : Cx) (scope : Scope) (Γ : List (Str × Nat)) : Cx := ⟨relabelS scope cx.sc, Γ⟩
/-- the comprehension's names, looked over *)-/
noncomputable def compOkB (cx : Cx) (scope : Scope) (Γ : List (Str × Nat)) (is : List Nat) : Bool :=
  decide (scope.kind = .function) && scope.names.all (fun y => decide (y.2 ≠ .cell)) && scope.names.all (fun y => decide (y.2 ≠ .local) || decide (scope.names.lookup y.1 = some .local)) &&
  scope.names.all (fun y => decide (y.2 ≠ .free) || (decide (cx.kindOf y.1 = some .cell) || decide (cx.kindOf y.1 = some .free))) &&
  Γ.all (fun p => if (cx.comp scope Γ).kindOf p.1 = some .local then is.contains p.2 else decide (cx.Γ.lookup p.1 = some p.2) && (decide ((cx.comp scope Γ).kindOf p.1 = some .cell) || decide ((cx.comp scope Γ).kindOf p.1 = some .free)))
structure CompOk (cx : Cx) (scope : Scope) (Γ : List (Str × Nat)) (is : List Nat) : Prop where
  kind : scope.kind = .function
  nocell : ∀ y ∈ scope.names, y.2 ≠ .cell
  names : ∀ y ∈ scope.names, y.2 = .local → scope.names.lookup y.1 = some .local
  free : ∀ y ∈ scope.names, y.2 = .free → cx.kindOf y.1 = some .cell ∨ cx.kindOf y.1 = some .free
  loc : ∀ y i, Γ.lookup y = some i → (cx.comp scope Γ).kindOf y = some .local → i ∈ is
  oth : ∀ y i, Γ.lookup y = some i → (cx.comp scope Γ).kindOf y ≠ some .local → cx.Γ.lookup y = some i ∧ ((cx.comp scope Γ).kindOf y = some .cell ∨ (cx.comp scope Γ).kindOf y = some .free)
theorem CompOk.of {cx : Cx} {scope : Scope} {Γ : List (Str × Nat)} {is : List Nat} (h : compOkB cx scope Γ is = true) : CompOk cx scope Γ is := by
  unfold compOkB at h
  simp only [Bool.and_eq_true, List.all_eq_true, decide_eq_true_eq, Bool.or_eq_true] at h
  obtain ⟨⟨⟨⟨h1, h2⟩, h3⟩, h4⟩, h5⟩ := h
  refine ⟨h1, h2, fun y hy e => ?_, fun y hy e => ?_, fun y i e k => ?_, fun y i e k => ?_⟩
  · rcases h3 y hy with q | q
    · exact absurd e q
    · exact q
  · rcases h4 y hy with q | q
    · exact absurd e q
    · exact q
  · have := h5 _ (mem_of_lookup e)
    simp only [k, if_true] at this
    simpa using this
  · have := h5 _ (mem_of_lookup e)
    simp only [k, if_false, Bool.and_eq_true, decide_eq_true_eq, Bool.or_eq_true] at this
    exact this
/-- a name of the comprehension that is not its own *)-/
theorem kind_back {cx : Cx} {scope : Scope} {Γ : List (Str × Nat)} (hn : ∀ y ∈ scope.names, y.2 ≠ .cell) {y : Str} (h : (cx.comp scope Γ).kindOf y = some .cell ∨ (cx.comp scope Γ).kindOf y = some .free) : (y, NameKind.free) ∈ scope.names ∧ ((cx.comp scope Γ).kindOf y = some .cell → cx.kindOf y = some .cell) := by
  unfold Cx.kindOf Cx.comp relabelS at h ⊢
  dsimp only at h ⊢
  have key : ∀ (l : List (Str × NameKind)) (k : NameKind), (l.map fun (n, k) => if (k == .free && cx.sc.kind == .function && cx.sc.names.lookup n == some .cell) then (n, NameKind.cell) else (n, k)).lookup y = some k →
      ∃ k', (y, k') ∈ l ∧ ((k' = .free ∧ k = .cell ∧ cx.sc.names.lookup y = some .cell) ∨ k = k') := by
    intro l k
    induction l with
    | nil => intro h; cases h
    | cons p l ih =>
      obtain ⟨n, k'⟩ := p
      rw [List.map_cons]
      dsimp only
      intro h
      by_cases hc : (k' == .free && cx.sc.kind == .function && cx.sc.names.lookup n == some .cell) = true
      · rw [if_pos hc, List.lookup_cons] at h
        cases hy : y == n with
        | true =>
          rw [hy] at h
          cases h
          have := beq_iff_eq.mp hy
          subst this
          simp only [Bool.and_eq_true, beq_iff_eq] at hc
          exact ⟨_, .head _, .inl ⟨hc.1.1, rfl, hc.2⟩⟩
        | false =>
          rw [hy] at h
          obtain ⟨k2, a, b⟩ := ih h
          exact ⟨k2, .tail _ a, b⟩
      · rw [if_neg hc, List.lookup_cons] at h
        cases hy : y == n with
        | true =>
          rw [hy] at h
          cases h
          have := beq_iff_eq.mp hy
          subst this
          exact ⟨_, .head _, .inr rfl⟩
        | false =>
          rw [hy] at h
          obtain ⟨k2, a, b⟩ := ih h
          exact ⟨k2, .tail _ a, b⟩
  rcases h with h | h
  · obtain ⟨k', a, b⟩ := key _ _ h
    rcases b with ⟨rfl, _, b⟩ | b
    · exact ⟨a, fun _ => b⟩
    · exact absurd b.symm (hn _ a)
  · obtain ⟨k', a, b⟩ := key _ _ h
    rcases b with ⟨_, b, _⟩ | b
    · cases b
    · subst b
      refine ⟨a, fun h' => ?_⟩
      rw [h] at h'; cases h'

/-! the closure *)-/
noncomputable def closeL (env : Env) : List (Str × NameKind) → List (Str × Addr) → List (Str × Addr)
  | [], acc => acc
  | (n, k) :: r, acc => closeL env r (if k == .free then (n, (env.cells.lookup n).getD 0) :: acc else acc)
theorem close_go {env : Env} (f : Str × NameKind → List (Str × Addr) → Sem (ForInStep (List (Str × Addr)))) (hf : ∀ name kind cs, f (name, kind) cs = if kind == .free then (do let a ← cellOf env name; pure (.yield ((name, a) :: cs))) else pure (.yield cs)) :
    ∀ (names : List (Str × NameKind)) (acc : List (Str × Addr)), (∀ y ∈ names, y.2 = .free → ∃ a, env.cells.lookup y.1 = some a) → (forIn names acc f : Sem (List (Str × Addr))) = pure (closeL env names acc)
  | [], acc, _ => by rw [List.forIn_nil]; rfl
  | (n, k) :: r, acc, h => by
    rw [List.forIn_cons, hf]
    unfold closeL
    by_cases hk : (k == .free) = true
    · obtain ⟨a, ha⟩ := h (n, k) (.head _) (beq_iff_eq.mp hk)
      rw [if_pos hk, if_pos hk]
      have e : cellOf env n = pure a := by unfold cellOf; rw [ha]
      rw [e, ha]
      exact close_go f hf r _ fun y hy => h y (.tail _ hy)
    · rw [if_neg hk, if_neg hk]
      exact close_go f hf r _ fun y hy => h y (.tail _ hy)
theorem closure_eq {scope : Scope} {env : Env} (h : ∀ y ∈ scope.names, y.2 = .free → ∃ a, env.cells.lookup y.1 = some a) : closureFor scope env = pure (closeL env scope.names []) := by
  show (forIn scope.names ([] : List (Str × Addr)) _ >>= fun cs => pure cs) = _
  rw [close_go (env := env) _ (fun name kind cs => by cases hkc : kind == NameKind.free <;> simp [hkc]) _ _ h]
  rfl
theorem close_sub {env : Env} : ∀ (names : List (Str × NameKind)) (acc : List (Str × Addr)), (∀ y ∈ names, y.2 = .free → ∃ a, env.cells.lookup y.1 = some a) → (∀ x a, acc.lookup x = some a → env.cells.lookup x = some a) → ∀ x a, (closeL env names acc).lookup x = some a → env.cells.lookup x = some a
  | [], acc, _, h => h
  | (n, k) :: r, acc, hn, h => by
    unfold closeL
    refine close_sub r _ (fun y hy => hn y (.tail _ hy)) fun x a e => ?_
    by_cases hk : (k == .free) = true
    · rw [if_pos hk, List.lookup_cons] at e
      obtain ⟨b, hb⟩ := hn (n, k) (.head _) (beq_iff_eq.mp hk)
      cases hx : x == n with
      | true =>
        rw [hx] at e
        have := beq_iff_eq.mp hx
        subst this
        simp only [Option.some.injEq] at e
        rw [hb] at e ⊢
        rw [← e]; rfl
      | false => rw [hx] at e; exact h x a e
    · rw [if_neg hk] at e; exact h x a e
theorem close_has {env : Env} : ∀ (names : List (Str × NameKind)) (acc : List (Str × Addr)) {x : Str}, ((x, NameKind.free) ∈ names ∨ ∃ a, acc.lookup x = some a) → ∃ a, (closeL env names acc).lookup x = some a
  | [], acc, x, h => by
    rcases h with h | h
    · cases h
    · exact h
  | (n, k) :: r, acc, x, h => by
    unfold closeL
    refine close_has r _ ?_
    rcases h with h | ⟨a, h⟩
    · rcases List.mem_cons.mp h with e | h
      · obtain ⟨rfl, rfl⟩ := Prod.mk.inj e
        right
        rw [if_pos (by rfl), List.lookup_cons, beq_self_eq_true]
        exact ⟨_, rfl⟩
      · exact .inl h
    · right
      split
      · rw [List.lookup_cons]
        split
        · exact ⟨_, rfl⟩
        · exact ⟨a, h⟩
      · exact ⟨a, h⟩
end Mine

namespace Mine
open PySem PySem.W PyProof.Rows PySem.Calls

section
variable {G : Cfg} {s s₂ s' : Shared} {g g₂ g' : Heap} {σ₁ σf : Sg} {wr : List Addr} {C D : Addr} {total : List PyData}
theorem Stp.dead (st : Stp G s g σ₁ s₂ g₂) {b : Addr} (h : s₂.heap.get? b = none) (hb : b ≠ G.c) : s.heap.get? b = none := by
  cases q : s.heap.get? b with
  | none => rfl
  | some o => rw [st.keep b o hb q] at h; cases h
theorem c_live (i : Inv G g σ₁ s) : ∃ o, s.heap.get? G.c = some o := by
  obtain ⟨o, _, _, e, _⟩ := i.shr.some; exact ⟨o, e⟩
theorem comp_fin (st : Stp G s g σ₁ s₂ g₂) (cf : CF G C s₂ g₂ wr D σf total s' g') (hD : s₂.heap.get? D = none) (hC : s₂.heap.get? C = none) (hCD : C ≠ D) (hw : ∀ b ∈ wr, s.heap.get? b = none) (hCg : g'.get? C = none) {h' : Heap} (hs : Heap.SameBut C s'.heap h') :
    ∃ g'', Stp G s g σf { s' with heap := h' } g'' ∧ Is g'' (.ref D) (.list total) ∧ g''.get? C = none := by
  obtain ⟨oc, hc⟩ := c_live st.inv
  have cC : G.c ≠ C := by rintro rfl'; rw [rfl', hC] at hc; cases hc
  have cD : G.c ≠ D := by rintro rfl'; rw [rfl', hD] at hc; cases hc
  have sub' : Sub g' h' := fun b o e => (hs.2 b (fun z => by rw [z, hCg] at e; cases e)).trans (cf.inv.sub b o e)
  obtain ⟨ws, ⟨n, hp⟩, hi⟩ := cf.acc
  have hD' : h'.get? D = some { cls := .type "list", data := .seq ws n } := (hs.2 D hCD.symm).trans hp
  have kept : ∀ b o, b ≠ G.c → s.heap.get? b = some o → h'.get? b = some o := fun b o hb e => by
    have e2 := st.keep b o hb e
    have bC : b ≠ C := by rintro rfl; rw [hC] at e2; cases e2
    have bD : b ≠ D := by rintro rfl; rw [hD] at e2; cases e2
    have bw : b ∉ wr := fun z => by rw [hw b z] at e; cases e
    exact (hs.2 b bC).trans (cf.keep b o hb bw bD bC e2)
  refine ⟨frz g' h' (· = D), ⟨?_, kept, st.grow.trans (cf.grow.trans (frz_grow sub')), fun b o e => ?_, ?_⟩, ?_, ?_⟩
  · obtain ⟨a1, b1, rfl⟩ := st.same
    obtain ⟨a2, b2, rfl⟩ := cf.same
    exact ⟨h', b2, rfl⟩
  · rcases frz_inv sub' e with q | q
    · rcases cf.fresh b o q with z | z
      · exact st.fresh b o z
      · refine .inr (st.dead z ?_)
        rintro rfl; rw [cf.inv.gc] at q; cases q
    · exact .inr (st.dead (by rw [q]; exact hD) (by rw [q]; exact cD.symm))
  · refine ⟨cf.inv.base.trans (frz_grow sub'), frz_sub, ?_, ?_⟩
    · cases q : (frz g' h' (· = D)).get? G.c with
      | none => rfl
      | some o =>
        exfalso
        rcases frz_inv sub' q with e | e
        · rw [cf.inv.gc] at e; cases e
        · exact cD e
    · obtain ⟨kvs, ⟨o, es, ep, ho, r⟩, e, q, l⟩ := cf.inv.shr
      exact ⟨kvs, ⟨o, es, ep, (hs.2 _ cC).trans ho, r⟩, e, q.mono (frz_grow sub'), l⟩
  · exact Is.list (frz_new rfl hD') rfl rfl (hi.mono (frz_grow sub'))
  · cases q : (frz g' h' (· = D)).get? C with
    | none => rfl
    | some o =>
      rcases frz_inv sub' q with e | e
      · rw [hCg] at e; cases e
      · exact absurd e hCD
end

section
variable {W : Wd} {A : Around} {cx : Cx} {κ : Anc} {env : Env} {ρ ρ₀ : List Bnd} {target : Expr} {t : Tgt} {s s₂ : Shared} {g g₂ : Heap} {σ σ₁ : Sg} {I : Addr} {xs : List PyData} {scope : Scope} {Γ : List (Str × Nat)} {is : List Nat}
theorem comp_env (eo : EnvOk W.G cx κ g s.heap env ρ) (i : Inv W.G g σ s) (st : Stp W.G s g σ₁ s₂ g₂) (ck : CompOk cx scope Γ is) (hρ : ∀ (j : Nat) (b : Bnd), ρ₀[j]? = some b → b ≠ .un → ρ[j]? = some b) (hun : ∀ j ∈ is, ∀ b : Bnd, ρ₀[j]? = some b → b = .un)
    {C : Addr} {h : Heap} {m : Str → Option Value} (hC : s₂.heap.get? C = none) (hn : h.Ns C m) (hk : ∀ b o, s₂.heap.get? b = some o → h.get? b = some o) (hL : κ.L ≤ C) (hCg : g₂.get? C = none) :
    EnvOk W.G (cx.comp scope Γ) κ g₂ h (compEnvC scope (closeL env scope.names []) C env) ρ₀ := by
  have eo₂ := eo.step st
  have hf : ∀ y ∈ scope.names, y.2 = .free → ∃ a, env.cells.lookup y.1 = some a := fun y hy e => eo.clo _ (ck.free y hy e)
  have sub := close_sub scope.names [] hf (fun _ _ e => by cases e)
  have bk : ∀ {i : Nat} {v : Value} {b : Bnd}, BndIs W.G κ i g₂ s₂.heap v b → BndIs W.G κ i g₂ h v b := fun q => q.keep fun _ o _ e => hk _ o e
  refine ⟨?_, ck.kind, eo.glob, eo.bui, hL, ?_, hCg, ⟨m, hn, fun y j b h1 h2 h3 h4 => ?_⟩, fun y j b h1 h2 h3 h4 => ?_, fun y hy => ?_, fun y a e => ?_, fun y a h1 h2 => ?_, fun j k b b' h1 h2 h3 h4 h5 => ?_, fun y z a h1 h2 => ?_⟩
  · show relabel scope env = relabelS scope cx.sc
    unfold relabel relabelS Env.kindOf
    rw [eo.sc]
  · rintro rfl'
    obtain ⟨o, e⟩ := c_live st.inv
    have z : C = W.G.c := rfl'
    rw [z, e] at hC; cases hC
  · exact absurd (hun j (ck.loc y j h1 h4) b h2) h3
  · have hnl : (cx.comp scope Γ).kindOf y ≠ some .local := by rcases h4 with h4 | h4 <;> (rw [h4]; simp)
    obtain ⟨o1, o2⟩ := ck.oth y j h1 hnl
    obtain ⟨f1, f2⟩ := kind_back ck.nocell h4
    have ok := ck.free _ f1 rfl
    obtain ⟨a, v, e, ⟨o, ho, hd⟩, q⟩ := eo₂.cells y j b o1 (hρ j b h2 h3) h3 ok
    obtain ⟨a', ha'⟩ := close_has (env := env) scope.names [] (.inl f1)
    have := sub y a' ha'
    rw [e] at this; cases this
    exact ⟨a, v, ha', ⟨o, hk _ _ ho, hd⟩, bk q⟩
  · obtain ⟨f1, _⟩ := kind_back ck.nocell hy
    exact close_has scope.names [] (.inl f1)
  · obtain ⟨h1, h2, v, o, ho, hd⟩ := eo₂.cc y a (sub y a e)
    exact ⟨h1, h2, v, o, hk _ _ ho, hd⟩
  · obtain ⟨f1, f2⟩ := kind_back ck.nocell (.inl h1)
    exact eo.cL y a (f2 h1) (sub y a h2)
  · exact eo.ap j k b b' (hρ j b h1 (by rintro rfl; cases h3)) (hρ k b' h2 (by rintro rfl; cases h4)) h3 h4 h5
  · exact eo.apc y z a (sub y a h1) (sub z a h2)

theorem comp_block {RR : Value → Addr → Result → Shared → Prop} {e : Expr} {F : Value → Shared → Prop} (hh : A.handled = none) (rm : Room A W.n) (eo : EnvOk W.G cx κ g s.heap env ρ) (i : Inv W.G g σ s) (st : Stp W.G s g σ₁ s₂ g₂) (K : ItOk W.G A target (tgtOwn t) s.heap g₂ s₂.heap I xs)
    (ck : CompOk cx scope Γ is) (hρ : ∀ (j : Nat) (b : Bnd), ρ₀[j]? = some b → b ≠ .un → ρ[j]? = some b) (hun : ∀ j ∈ is, ∀ b : Bnd, ρ₀[j]? = some b → b = .un) (ht : TgtOk false (cx.comp scope Γ) target t)
    (go : ∀ D C s₄ fp wr P Md St, s₂.heap.get? D = none → s₂.heap.get? C = none → C ≠ D → (∀ b ∈ wr, s.heap.get? b = none) → LoopCtx W A (cx.comp scope Γ) κ (compEnvC scope (closeL env scope.names []) C env) ρ₀ target t s₂ g₂ I xs D fp wr P Md St →
      CI W.G C s₂ g₂ wr D σ₁ [] s₄ g₂ → EnvOk W.G (cx.comp scope Γ) κ g₂ s₄.heap (compEnvC scope (closeL env scope.names []) C env) ρ₀ → St 0 s₄.heap →
      (∀ (s : Shared) (Q : Value → Shared → Prop) (E : Value → Shared → Prop), St 0 s.heap → Q (.ref I) s → wpAny (model W.G.prog W.G.w) A (pyIter (.ref I)) Q E s) →
      codeAny (model W.G.prog W.G.w) A (.compStart e 0 (.ref I) (.ref D) (compEnvC scope (closeL env scope.names []) C env)) (RR (.ref D) C) s₄) :
    wpAny (model W.G.prog W.G.w) A (newList []) (fun acc s₃ => wpAny (model W.G.prog W.G.w) A (newFunctionEnv scope env.globals (closeL env scope.names []) [] env.qual none .none (some env)) (fun cenv s₄ =>
      codeAny (model W.G.prog W.G.w) A (.compStart e 0 (.ref I) acc { cenv with scope := relabel scope env }) (RR acc cenv.locals) s₄) F s₃) F s₂ := by
  obtain ⟨fp, wr, P, Md, St, kt, hst, hitem, hwr, hfp, hself, hlive⟩ := K.ex
  refine wpAny_newObj_type (wpAny_newFunctionEnv ck.nocell (by intro y hy; simp at hy) (fun h₁ hns₁ hsb₁ => ?_) ck.kind)
  dsimp only at hns₁ hsb₁ ⊢
  have hsz : (s₂.heap.push { cls := .type "list", dict := none, data := .seq ([] : List Value).toArray }).objs.size = s₂.heap.objs.size + 1 := Heap.size_push ..
  have hCne : (s₂.heap.push { cls := .type "list", dict := none, data := .seq ([] : List Value).toArray }).objs.size ≠ s₂.heap.objs.size := by rw [hsz]; exact Nat.succ_ne_self _
  have hC0 : s₂.heap.get? (s₂.heap.push { cls := .type "list", dict := none, data := .seq ([] : List Value).toArray }).objs.size = none := Heap.get?_none_of_le (by rw [hsz]; exact Nat.le_succ _)
  have old : ∀ b o, s₂.heap.get? b = some o → h₁.get? b = some o := fun b o e => hsb₁.extBut b o (by rw [hsz]; exact Nat.ne_of_lt (Nat.lt_succ_of_lt (Heap.lt_size e))) (Heap.get?_push_of_some _ (Heap.get?_push_of_some _ e))
  have hacc : h₁.PlainList s₂.heap.objs.size #[] := ⟨0, hsb₁.extBut _ _ (Ne.symm hCne) (Heap.get?_push_of_some _ (Heap.get?_push_size _ rfl))⟩
  have hCL : κ.L ≤ (s₂.heap.push { cls := .type "list", dict := none, data := .seq ([] : List Value).toArray }).objs.size := by
    obtain ⟨o, e⟩ := (eo.step st).locals_live
    have h1 := Heap.lt_size e
    have h2 := eo.above
    rw [hsz]
    exact Nat.le_trans h2 (Nat.le_of_lt (Nat.lt_succ_of_lt h1))
  generalize (s₂.heap.push { cls := .type "list", dict := none, data := .seq ([] : List Value).toArray }).objs.size = C at *
  have gnone : ∀ b, s₂.heap.get? b = none → g₂.get? b = none := fun b e => by
    cases q : g₂.get? b with
    | none => rfl
    | some o => rw [st.inv.sub _ _ q] at e; cases e
  have st₁ := Stp.keepAll (G := W.G) (tk := s₂.toks + 0) st.inv old
  have hE := comp_env (Γ := Γ) eo i st ck hρ hun hC0 hns₁ old hCL (gnone _ hC0)
  have hS : St 0 h₁ := kt.frame _ _ _ hst fun b hb o e => old b o e
  have live : ∀ b, EnvAt (cx.comp scope Γ) κ (compEnvC scope (closeL env scope.names []) C env) ρ₀ b → b = C ∨ ∃ o, s.heap.get? b = some o := by
    intro b hb
    rcases hb with rfl | ⟨x, h⟩ | ⟨x, j, ds, h1, h2, rfl⟩
    · exact .inl rfl
    · right
      have hf : ∀ y ∈ scope.names, y.2 = .free → ∃ a, env.cells.lookup y.1 = some a := fun y hy e => eo.clo _ (ck.free y hy e)
      have := close_sub scope.names [] hf (fun _ _ e => by cases e) x b h
      obtain ⟨_, _, v, o, ho, _⟩ := eo.cc x b this
      exact ⟨o, ho⟩
    · right
      have hnl : (cx.comp scope Γ).kindOf x ≠ some .local := fun z => by
        have := hun j (ck.loc x j h1 z) _ h2; cases this
      obtain ⟨o1, o2⟩ := ck.oth x j h1 hnl
      obtain ⟨f1, f2⟩ := kind_back ck.nocell o2
      have ok := ck.free _ f1 rfl
      have h2' := hρ j _ h2 (by simp)
      obtain ⟨_, v, _, _, vs, _, ⟨n, p⟩, _⟩ := eo.cells x j _ o1 h2' (by simp) ok
      exact ⟨_, p⟩
  obtain ⟨oc, hoc⟩ := c_live st.inv
  obtain ⟨oc0, hoc0⟩ := c_live i
  refine go s₂.heap.objs.size C { s₂ with heap := h₁, toks := s₂.toks + ([] : List (Str × Value)).length } fp wr P Md St size_none hC0 hCne (fun b hb => (hwr b hb).1) ?_ ⟨⟨⟨h₁, _, rfl⟩, fun b o _ _ _ _ e => old b o e, Sub.rfl, fun _ _ e => .inl e, st₁.inv, ⟨_, hacc, .nil⟩, gnone _ size_none⟩, fun b hb => ?_⟩ hE hS hself
  · refine ⟨hh, rm, kt, hitem, fun b hb => (hwr b hb).2, hfp, hlive, fun b hb hw => ?_, fun b hb => ?_, ?_, fun z => ?_, fun z => ?_, ht⟩
    · rcases live b hb with rfl | ⟨o, ho⟩
      · obtain ⟨_, _, o, ho⟩ := hwr _ hw
        rw [hC0] at ho; cases ho
      · have := (hwr b hw).1
        rw [ho] at this; cases this
    · rcases live b hb with rfl | ⟨o, ho⟩
      · exact hCne
      · rintro rfl
        by_cases hc : s₂.heap.objs.size = W.G.c
        · rw [← hc, size_none] at hoc; cases hoc
        · have := st.dead size_none hc
          rw [ho] at this; cases this
    · rintro hc
      rw [← hc, size_none] at hoc; cases hoc
    · obtain ⟨_, _, o, ho⟩ := hwr _ z
      rw [size_none] at ho; cases ho
    · have := (hwr _ z).1
      rw [hoc0] at this; cases this
  · obtain ⟨_, _, o, ho⟩ := hwr b hb
    exact ⟨o, old b o ho⟩
end
end Mine

namespace Mine
open PySem PySem.W PyProof.Rows PySem.Calls

noncomputable def slotsOf : Tgt → List Nat
  | .one i => [i]
  | .two i j => [i, j]
section
variable {W : Wd} {A : Around} {cx : Cx} {κ : Anc} {env : Env} {ρ ρ' : List Bnd} {target target2 : Expr} {t t2 : Tgt} {s : Shared} {g : Heap} {σ σ' : Sg} {scope : Scope} {Γ : List (Str × Nat)}
theorem clr_un (t : Tgt) (ρ : List Bnd) : ∀ j ∈ slotsOf t, ∀ b : Bnd, (clrT t ρ)[j]? = some b → b = .un := by
  intro j hj b h
  cases t with
  | one i =>
    rw [List.mem_singleton.mp hj] at h
    rcases set_get h with ⟨_, e⟩ | ⟨n, _⟩
    · exact e
    · exact absurd rfl n
  | two i k =>
    rcases set_get h with ⟨_, e⟩ | ⟨n, h⟩
    · exact e
    · rcases set_get h with ⟨_, e⟩ | ⟨n', h⟩
      · exact e
      · simp only [slotsOf, List.mem_cons, List.not_mem_nil, or_false] at hj
        rcases hj with rfl | rfl
        · exact absurd rfl n'
        · exact absurd rfl n
theorem clr_un' (t : Tgt) (ρ : List Bnd) {j : Nat} (hj : ∀ b : Bnd, ρ[j]? = some b → b = .un) : ∀ b : Bnd, (clrT t ρ)[j]? = some b → b = .un := by
  intro b h
  cases t with
  | one i =>
    rcases set_get h with ⟨_, e⟩ | ⟨_, h⟩
    · exact e
    · exact hj b h
  | two i k =>
    rcases set_get h with ⟨_, e⟩ | ⟨n, h⟩
    · exact e
    · rcases set_get h with ⟨_, e⟩ | ⟨n', h⟩
      · exact e
      · exact hj b h
theorem clr_get (t : Tgt) (ρ : List Bnd) : ∀ (j : Nat) (b : Bnd), (clrT t ρ)[j]? = some b → b ≠ .un → ρ[j]? = some b := by
  intro j b h hb
  cases t with
  | one i =>
    rcases set_get h with ⟨_, e⟩ | ⟨_, h⟩
    · exact absurd e hb
    · exact h
  | two i k =>
    rcases set_get h with ⟨_, e⟩ | ⟨n, h⟩
    · exact absurd e hb
    · rcases set_get h with ⟨_, e⟩ | ⟨n', h⟩
      · exact absurd e hb
      · exact h
noncomputable def foldedOk (iter : Expr) : Prop := ∀ env x, foldedSetIterable iter env x = pure x
/-- what a comprehension does, for either use *)-/
structure CompRun (W : Wd) (cx : Cx) (scope : Scope) (ast : Expr) (e : E) : Prop where
  run : ∀ {κ : Anc} A s g σ env ρ xs σ' (use : Option (Value → Sem Unit)) (Q : Value → Shared → Prop) pos, Room A W.n → Inv W.G g σ s → EnvOk W.G cx κ g s.heap env ρ → ev W.glo W.R e ρ σ = some (xs, σ') →
    (∀ D C s' ds, xs = [.d (.list ds)] → (∃ m, s'.heap.Ns C m) → s.heap.get? C = none → C ≠ W.G.c → (∀ h', Heap.SameBut C s'.heap h' → ∃ g', Stp W.G s g σ' { s' with heap := h' } g' ∧ Is g' (.ref D) (.list ds) ∧ g'.get? C = none) →
      compPost (model W.G.prog W.G.w) A (fun _ _ => False) use Q (.ref D) C (.ok .next) s') →
    wpAny (model W.G.prog W.G.w) A (comprehension ast scope env pos (newList []) false (firstIter (clausesOf ast) env) use) Q (fun _ _ => False) s
theorem compCore {gc : Comprehension} {gs : List Comprehension} {ast : Expr} {e it : E} {is : List Nat} (hcl : clausesOf ast = gc :: gs) (hI : SndI W cx target (tgtOwn t) gc.iter it) (ck : CompOk cx scope Γ is) (hfo : foldedOk gc.iter) (ht : TgtOk false (cx.comp scope Γ) target t)
    (pre : List Bnd → List Bnd) (hpre : ∀ (ρ : List Bnd) (j : Nat) (b : Bnd), (clrT t (pre ρ))[j]? = some b → b ≠ .un → ρ[j]? = some b) (hun : ∀ ρ, ∀ j ∈ is, ∀ b : Bnd, (clrT t (pre ρ))[j]? = some b → b = .un) (f : List Bnd → PyData → Sg → Option (List PyData × Sg))
    (hev : ∀ ρ σ, ev W.glo W.R e ρ σ = (oneL (ev W.glo W.R it ρ σ)).bind fun r => (compGo (f ρ) r.1 r.2).bind fun q => (mkL q.1).bind fun d => some ([.d d], q.2))
    (loop : ∀ {A : Around} {κ : Anc} {cenv : Env} {ρ : List Bnd} {s₂ : Shared} {g₂ : Heap} {I : Addr} {xs : List PyData} {D : Addr} {fp wr : List Addr} {P Md : Nat → Value → Heap → Prop} {St : Nat → Heap → Prop} {total : List PyData} {σf : Sg} {R : Result → Shared → Prop} {s' : Shared},
      LoopCtx W A (cx.comp scope Γ) κ cenv (clrT t (pre ρ)) target t s₂ g₂ I xs D fp wr P Md St → total.length ≤ lim → Fin W (cx.comp scope Γ) κ cenv (clrT t (pre ρ)) s₂ g₂ wr D total σf R →
      LoopIn W (cx.comp scope Γ) κ cenv (clrT t (pre ρ)) s₂ g₂ xs D wr St (f ρ) total σf (xs.length + 1) s' →
      (wpAny (model W.G.prog W.G.w) A (pyIter (.ref I)) (fun it' s'' => it' = .ref I ∧ s'' = s') (fun _ _ => False) s') → codeAny (model W.G.prog W.G.w) A (.compStart ast 0 (.ref I) (.ref D) cenv) R s') : CompRun W cx scope ast e where
  run := by
    intro κ A s g σ env ρ xs σ' use Q pos rm i eo he k
    have hh := rm.handled
    rw [hev] at he
    obtain ⟨⟨ys, σ₁⟩, h1, he⟩ := Option.bind_eq_some_iff.mp he
    obtain ⟨⟨ds, σ₂⟩, h2, he⟩ := Option.bind_eq_some_iff.mp he
    obtain ⟨d, h3, he⟩ := Option.bind_eq_some_iff.mp he
    obtain ⟨rfl, hl⟩ := mkL_eq h3
    simp only [Option.some.injEq, Prod.mk.injEq] at he
    obtain ⟨rfl, rfl⟩ := he
    have hf : ∀ y ∈ scope.names, y.2 = .free → ∃ a, env.cells.lookup y.1 = some a := fun y hy e => eo.clo _ (ck.free y hy e)
    refine wpAny_comprehension_free hcl (fun x => hfo env x) (closure_eq hf) ck.kind ck.names ?_
    have hfi : firstIter (clausesOf ast) env = eval gc.iter env := by rw [hcl]; obtain ⟨_, _, _, _⟩ := gc; rfl
    rw [hfi]
    refine wpAny_mono (hI A s g σ env ρ ys σ₁ hh rm i eo h1) (fun x s₁ hw => ?_) fun _ _ f => f
    refine wpAny_mono hw (fun itv s₂ ⟨g₂, I, ei, st, K⟩ => ?_) fun _ _ f => f
    subst ei
    refine comp_block (RR := fun acc C => compPost (model W.G.prog W.G.w) A (fun _ _ => False) use Q acc C) hh rm eo i st K ck (hpre ρ) (hun ρ) ht fun D C s₄ fp wr P Md St hD hC hCD hw L ci eo₄ hS hself => ?_
    refine loop L hl (fun s' g' cf eo' => ?_) ⟨0, σ₁, [], g₂, ds, rfl, Nat.zero_le _, ci, eo₄, hS, h2, rfl⟩ (hself _ _ _ hS ⟨rfl, rfl⟩)
    obtain ⟨m, hn, _⟩ := eo'.vars
    obtain ⟨oc, hoc⟩ := c_live st.inv
    have hCc : C ≠ W.G.c := by rintro rfl'; rw [rfl', hoc] at hC; cases hC
    refine k D C s' ds rfl ⟨m, hn⟩ (st.dead hC hCc) hCc fun h' hs => ?_
    exact comp_fin st cf hD hC hCD hw eo'.lg hs
end
end Mine

namespace Mine
open PySem PySem.W PyProof.Rows PySem.Calls

section
variable {W : Wd} {A : Around} {cx : Cx} {κ : Anc} {env : Env} {ρ ρ' : List Bnd} {target target2 : Expr} {t t2 : Tgt} {s : Shared} {g : Heap} {σ σ' : Sg} {scope : Scope} {Γ : List (Str × Nat)}
theorem CompRun.zero {elt iter : Expr} {pos : Pos} {e it : E} (hI : SndI W cx target (tgtOwn t) iter it) (ck : CompOk cx scope Γ (slotsOf t)) (hfo : foldedOk iter) (ht : TgtOk false (cx.comp scope Γ) target t) (he : SndE W (cx.comp scope Γ) elt e) :
    CompRun W cx scope (.ListComp elt [⟨target, iter, [], 0⟩] scope pos) (.comp e t it (.lit (.bool true))) :=
  compCore (gc := ⟨target, iter, [], 0⟩) (gs := []) rfl hI ck hfo ht id (fun ρ => clr_get t ρ) (fun ρ => clr_un t ρ)
    (fun ρ x σ => (bindT t x ρ).bind fun ρ' => (oneD (ev W.glo W.R e ρ' σ)).bind fun p => some ([p.1], p.2))
    (fun ρ σ => by simp only [ev, oneB, Option.bind_some, if_true])
    (fun L hz fin h hself => codeAny_compStart_list (L.loop0 he hz fin h) (wpAny_mono hself (fun it' s'' hq => by obtain ⟨rfl, rfl⟩ := hq; exact L.loop0 he hz fin h) fun _ _ f => f.elim))
theorem CompRun.one {elt iter test : Expr} {pos : Pos} {e it c : E} (hI : SndI W cx target (tgtOwn t) iter it) (ck : CompOk cx scope Γ (slotsOf t)) (hfo : foldedOk iter) (ht : TgtOk false (cx.comp scope Γ) target t) (he : SndE W (cx.comp scope Γ) elt e) (hc : SndB W (cx.comp scope Γ) test c) :
    CompRun W cx scope (.ListComp elt [⟨target, iter, [test], 0⟩] scope pos) (.comp e t it c) :=
  compCore (gc := ⟨target, iter, [test], 0⟩) (gs := []) rfl hI ck hfo ht id (fun ρ => clr_get t ρ) (fun ρ => clr_un t ρ)
    (fun ρ x σ => (bindT t x ρ).bind fun ρ' => (oneB (ev W.glo W.R c ρ' σ)).bind fun q => if q.1 then (oneD (ev W.glo W.R e ρ' q.2)).bind fun p => some ([p.1], p.2) else some ([], q.2))
    (fun ρ σ => by simp only [ev])
    (fun L hz fin h hself => codeAny_compStart_list (L.loop1 he hc hz fin h) (wpAny_mono hself (fun it' s'' hq => by obtain ⟨rfl, rfl⟩ := hq; exact L.loop1 he hc hz fin h) fun _ _ f => f.elim))
theorem CompRun.two {elt iter i2 : Expr} {pos : Pos} {e it it2 : E} (hI : SndI W cx target (tgtOwn t) iter it) (ck : CompOk cx scope Γ (slotsOf t ++ slotsOf t2)) (hfo : foldedOk iter) (ht : TgtOk false (cx.comp scope Γ) target t) (he : SndE W (cx.comp scope Γ) elt e)
    (hI2 : SndI W (cx.comp scope Γ) target2 (tgtOwn t2) i2 it2) (hfo2 : foldedOk i2) (ht2 : TgtOk false (cx.comp scope Γ) target2 t2) :
    CompRun W cx scope (.ListComp elt [⟨target, iter, [], 0⟩, ⟨target2, i2, [], 0⟩] scope pos) (.comp2 e t it t2 it2) := by
  have hvr : ∀ (x : Str) (i : Nat) (ds : List PyData), (cx.comp scope Γ).Γ.lookup x = some i → ∀ ρ' : List Bnd, ρ'[i]? = some (.own ds) → (cx.comp scope Γ).var x = true := by
    intro x i ds h1 ρ' h2
    unfold Cx.var
    simp only [Bool.or_eq_true, beq_iff_eq]
    by_cases h : (cx.comp scope Γ).kindOf x = some .local
    · exact .inl (.inl h)
    · rcases (ck.oth x i h1 h).2 with q | q
      · exact .inl (.inr q)
      · exact .inr q
  refine compCore (gc := ⟨target, iter, [], 0⟩) (gs := [⟨target2, i2, [], 0⟩]) rfl hI ck hfo ht (clrT t2) (fun ρ j b h hb => clr_get t2 ρ j b (clr_get t _ j b h hb) hb) (fun ρ j hj => ?_)
    (fun ρ x σ => (bindT t x (clrT t2 ρ)).bind fun ρ' => (oneL (ev W.glo W.R it2 ρ' σ)).bind fun q => compGo (fun y σ => (bindT t2 y ρ').bind fun ρ'' => (oneD (ev W.glo W.R e ρ'' σ)).bind fun p => some ([p.1], p.2)) q.1 q.2)
    (fun ρ σ => by simp only [ev])
    (fun L hz fin h hself => codeAny_compStart_list (L.loop2 he hI2 (fun x => hfo2 _ x) ht2 hvr hz fin h) (wpAny_mono hself (fun it' s'' hq => by obtain ⟨rfl, rfl⟩ := hq; exact L.loop2 he hI2 (fun x => hfo2 _ x) ht2 hvr hz fin h) fun _ _ f => f.elim))
  rcases List.mem_append.mp hj with hj | hj
  · exact clr_un t _ j hj
  · exact clr_un' t _ (clr_un t2 ρ j hj)
theorem SndE.comp {elt : Expr} {gs : List Comprehension} {pos : Pos} {e : E} (h : CompRun W cx scope (.ListComp elt gs scope pos) e) (hf : firstAsync gs = false := by rfl) : SndE W cx (.ListComp elt gs scope pos) e := fun _ A s g σ env ρ xs σ' rm i eo he => by
  rw [eval_ListComp, hf]
  refine h.run A s g σ env ρ xs σ' none _ _ rm i eo he fun D C s' ds ex hm hC hCc fin => ?_
  refine ⟨hm.choose, hm.choose_spec, fun h' hs => ?_⟩
  obtain ⟨g', st, q, _⟩ := fin h' hs
  exact ⟨g', st, _, ex, q⟩

/-! statements *)-/
noncomputable def At (cx : Cx) (κ : Anc) (env : Env) (ρ : List Bnd) (b : Addr) : Prop := b = env.locals ∨ (∃ x, env.cells.lookup x = some b) ∨ ∃ j ds, (∃ x, cx.Γ.lookup x = some j ∧ cx.var x = true) ∧ ρ[j]? = some (.own ds) ∧ b = κ.f j
/-- a part of the heap that is left alone *)-/
noncomputable def Fm (G : Cfg) (cx : Cx) (fr : Addr → Option Obj) (κ : Anc) (env : Env) (ρ : List Bnd) (g h : Heap) : Prop := ∀ b o, fr b = some o → h.get? b = some o ∧ b ≠ G.c ∧ g.get? b = none ∧ ¬ At cx κ env ρ b
noncomputable def OutOk (W : Wd) (cx : Cx) (κ : Anc) (fr : Addr → Option Obj) (s₀ : Shared) (g₀ : Heap) (env : Env) (out : Out) (fl : Flow) (s' : Shared) : Prop :=
  ∃ g', match out with
    | .next ρ' σ' => fl = .next ∧ Stp W.G s₀ g₀ σ' s' g' ∧ ∃ κ' : Anc, κ'.L = κ.L ∧ EnvOk W.G cx κ' g' s'.heap env ρ' ∧ Fm W.G cx fr κ' env ρ' g' s'.heap
    | .ret v σ' => ∃ r, fl = .ret r ∧ Stp W.G s₀ g₀ σ' s' g' ∧ IsV W.G g' r v
noncomputable def SndS (W : Wd) (cx : Cx) (stmts : List Stmt) (S : Mine.S) : Prop :=
  ∀ ⦃κ : Anc⦄ ⦃fr : Addr → Option Obj⦄ A s₀ g₀ s g σ env ρ out, Room A W.n → Stp W.G s₀ g₀ σ s g → EnvOk W.G cx κ g s.heap env ρ → Fm W.G cx fr κ env ρ g s.heap → s₀.heap.objs.size ≤ κ.L → evS W.glo W.R S ρ σ = some out →
    wpAny (model W.G.prog W.G.w) A (execs stmts env) (OutOk W cx κ fr s₀ g₀ env out) (fun _ _ => False) s
section
variable {G : Cfg} {fr : Addr → Option Obj} {h h' : Heap} {s₁ : Shared} {g' : Heap}
theorem Fm.step (x : Fm G cx fr κ env ρ g s.heap) (st : Stp G s g σ' s₁ g') : Fm G cx fr κ env ρ g' s₁.heap := fun b o e => by
  obtain ⟨h1, h2, h3, h4⟩ := x b o e
  exact ⟨st.keep b o h2 h1, h2, st.gone h3 h1, h4⟩
theorem Fm.moved {M : Addr → Prop} (x : Fm G cx fr κ env ρ g s.heap) (m : Moved M s s₁) (hM : ∀ b, M b → At cx κ env ρ b ∨ fr b = none) : Fm G cx fr κ env ρ g s₁.heap := fun b o e => by
  obtain ⟨h1, h2, h3, h4⟩ := x b o e
  obtain ⟨h', tk, rfl, k⟩ := m
  refine ⟨k b o (fun z => ?_) h1, h2, h3, h4⟩
  rcases hM b z with z | z
  · exact h4 z
  · rw [e] at z; cases z
theorem Fm.swap {κ' : Anc} (x : Fm G cx fr κ env ρ g h) (hp : ∀ b, At cx κ' env ρ' b → At cx κ env ρ b ∨ fr b = none) : Fm G cx fr κ' env ρ' g h := fun b o e => by
  obtain ⟨h1, h2, h3, h4⟩ := x b o e
  refine ⟨h1, h2, h3, fun z => ?_⟩
  rcases hp b z with z | z
  · exact h4 z
  · rw [e] at z; cases z
theorem Fm.dead (x : Fm G cx fr κ env ρ g h) {b : Addr} (hb : h.get? b = none) : fr b = none := by
  cases e : fr b with
  | none => rfl
  | some o => rw [(x b o e).1] at hb; cases hb
theorem At.set {i : Nat} {b : Bnd} (hb : isOwn b = false) {a : Addr} (h : At cx κ env (ρ.set i b) a) : At cx κ env ρ a := by
  rcases h with h | h | ⟨j, ds, nm, z, e⟩
  · exact .inl h
  · exact .inr (.inl h)
  · rcases set_get z with ⟨_, rfl⟩ | ⟨_, z⟩
    · cases hb
    · exact .inr (.inr ⟨j, ds, nm, z, e⟩)
theorem Wr.at {cl : Bool} {b : Addr} (h : Wr cl cx env b) : At cx κ env ρ b := by
  rcases h with h | ⟨_, x, _, h⟩
  · exact .inl h
  · exact .inr (.inl ⟨x, h⟩)
theorem Fm.asg {cl : Bool} {i : Nat} {b : Bnd} (x : Fm G cx fr κ env ρ g s.heap) (m : Moved (Wr cl cx env) s s₁) (hb : isOwn b = false) : Fm G cx fr κ env (ρ.set i b) g s₁.heap := (x.moved m fun b hb => .inl (Wr.at hb)).swap fun a h => .inl (At.set hb h)
end
theorem Stp.moved {G : Cfg} {s₀ s s' : Shared} {g₀ g : Heap} {σ : Sg} {M : Addr → Prop} (st : Stp G s₀ g₀ σ s g) (m : Moved M s s') (h : ∀ b, M b → s₀.heap.get? b = none ∧ g.get? b = none ∧ b ≠ G.c) : Stp G s₀ g₀ σ s' g := by
  have inv := st.inv.moved m fun b hb => (h b hb).2
  obtain ⟨h', tk, rfl, k⟩ := m
  refine ⟨?_, fun b o hb e => k b o (fun z => ?_) (st.keep b o hb e), st.grow, st.fresh, inv⟩
  · obtain ⟨a1, b1, rfl⟩ := st.same
    exact ⟨h', tk, rfl⟩
  · rw [(h b z).1] at e; cases e
theorem none_of_ge {s₀ : Shared} {L b : Addr} (h : s₀.heap.objs.size ≤ L) (hb : L ≤ b) : s₀.heap.get? b = none := Heap.get?_none_of_le (Nat.le_trans h hb)
theorem Wr.anc {cl : Bool} {h : Heap} (eo : EnvOk W.G cx κ g h env ρ) {b : Addr} (hb : Wr cl cx env b) : κ.L ≤ b := by
  rcases hb with rfl | ⟨_, x, h1, h2⟩
  · exact eo.above
  · exact eo.cL x b h1 h2
theorem SndS.nil : SndS W cx [] .nop := fun _ _ A s₀ g₀ s g σ env ρ out rm st eo fm hL he => by
  simp only [evS, Option.some.injEq] at he
  subst he
  exact wpAny_execs_nil ⟨g, rfl, st, _, rfl, eo, fm⟩
theorem SndS.ret {v : Expr} {e : E} {pos : Pos} {rest : List Stmt} (h : SndE W cx v e) : SndS W cx (.Return (some v) pos :: rest) (.ret e) := fun _ _ A s₀ g₀ s g σ env ρ out rm st eo fm hL he => by
  simp only [evS, Option.bind_eq_some_iff] at he
  obtain ⟨⟨x, σ₁⟩, h1, h2⟩ := he
  simp only [Option.some.injEq] at h2
  subst h2
  refine wpAny_execs_cons (wpAny_Return_some ((h.one rm st.inv eo h1).use fun r s₁ g₁ st₁ q => ?_))
  exact ⟨g₁, r, rfl, st.trans st₁, q⟩
/-- on with the rest *)-/
theorem SndS.next {rest : List Stmt} {S : Mine.S} (h : SndS W cx rest S) {κ : Anc} {fr : Addr → Option Obj} {A : Around} {s₀ s : Shared} {g₀ g : Heap} {σ : Sg} {env : Env} {ρ : List Bnd} {out : Out} {L : Addr} (rm : Room A W.n) (st : Stp W.G s₀ g₀ σ s g) (eo : EnvOk W.G cx κ g s.heap env ρ) (fm : Fm W.G cx fr κ env ρ g s.heap) (hL : s₀.heap.objs.size ≤ L) (e : κ.L = L) (he : evS W.glo W.R S ρ σ = some out) {κ₀ : Anc} (e₀ : κ₀.L = L) :
    wpAny (model W.G.prog W.G.w) A (execs rest env) (OutOk W cx κ₀ fr s₀ g₀ env out) (fun _ _ => False) s := by
  refine wpAny_mono (h A s₀ g₀ s g σ env ρ out rm st eo fm (e ▸ hL) he) (fun fl s' ⟨g', q⟩ => ⟨g', ?_⟩) fun _ _ f => f
  cases out with
  | next ρ' σ' =>
    obtain ⟨a, b, κ', c, d⟩ := q
    exact ⟨a, b, κ', c.trans (e.trans e₀.symm), d⟩
  | ret v σ' => exact q
noncomputable def asgOk (cx : Cx) (x : Str) (i : Nat) : Prop := (cx.kindOf x = some .local ∨ (true = true ∧ cx.kindOf x = some .cell)) ∧ cx.Γ.lookup x = some i ∧ slotInj cx x i
theorem SndS.asg {x : Str} {i : Nat} {p pos : Pos} {v : Expr} {e : E} {rest : List Stmt} {S : Mine.S} (ha : asgOk cx x i) (h : SndE W cx v e) (k : SndS W cx rest S) (hs : ∀ env, swapsWith v (some (.Name x p)) pos.line env = pure false := by intro _; rfl) :
    SndS W cx (.Assign [.Name x p] v pos :: rest) (.asg i e S) := fun κ fr A s₀ g₀ s g σ env ρ out rm st eo fm hL he => by
  simp only [evS, Option.bind_eq_some_iff] at he
  obtain ⟨⟨y, σ₁⟩, h1, h2⟩ := he
  obtain ⟨a1, a2, a3⟩ := ha
  refine wpAny_execs_cons (wpAny_Assign_stores ((h.one rm st.inv eo h1).use fun r s₁ g₁ st₁ q => ?_) (hs env) rfl)
  have eo₁ := eo.step st₁
  have st' := st.trans st₁
  show wpAny _ _ (assign (.Name x p) env r) _ _ _
  refine assign_one (cl := true) (b := .v y) eo₁ a1 a2 a3 ownOk_v (fun _ _ => q) fun s' m eo' => ?_
  refine k.next rm (st'.moved m fun b hb => ?_) eo' ((fm.step st₁).asg m rfl) hL rfl h2 rfl
  have w := Wr.safe eo₁ b hb
  exact ⟨none_of_ge hL (Wr.anc eo₁ hb), w.1, w.2⟩
/-- an assignment of a display of a list comprehension, the stores exchanged *)-/
theorem SndS.asgU {elt : Expr} {gs : List Comprehension} {x : Str} {i : Nat} {p pos q : Pos} {e : E} {rest : List Stmt} {S : Mine.S} (ha : asgOk cx x i) (h : CompRun W cx scope (.ListComp elt gs scope q) e) (k : SndS W cx rest S)
    (hs : ∀ env : Env, env.scope = cx.sc → swapsWith (.ListComp elt gs scope q) (some (.Name x p)) pos.line env = pure true) (hv : ∀ x i, cx.Γ.lookup x = some i → cx.var x = true) (hf : firstAsync gs = false := by rfl) :
    SndS W cx (.Assign [.Name x p] (.ListComp elt gs scope q) pos :: rest) (.asg i e S) := fun κ fr A s₀ g₀ s g σ env ρ out rm st eo fm hL he => by
  simp only [evS, Option.bind_eq_some_iff] at he
  obtain ⟨⟨y, σ₁⟩, h1, h2⟩ := he
  obtain ⟨a1, a2, a3⟩ := ha
  refine wpAny_execs_cons ?_
  rw [exec_Assign_Name_used x p _ pos (hs env eo.sc)]
  refine wpAny_bind (wpAny_standAt ?_)
  rw [arm_evalThenUse_ListComp, hf]
  refine wpAny_bind (wpAny_bind (h.run A s g σ env ρ _ σ₁ (some (assign (.Name x p) env)) _ _ rm st.inv eo (oneV_eq h1) fun D C s' ds ex hm hC hCc fin => ?_))
  cases ex
  obtain ⟨m, hm⟩ := hm
  obtain ⟨g', st', qi, hCg⟩ := fin s'.heap (.refl ..)
  have eo₁ := eo.step st'
  have nC : ∀ b, Wr true cx env b → b ≠ C := by
    rintro b hb rfl
    rcases hb with rfl | ⟨_, x, h1, h2⟩
    · obtain ⟨o, e⟩ := eo.locals_live
      rw [hC] at e; cases e
    · obtain ⟨_, _, v, o, e, _⟩ := eo.cc _ _ h2
      rw [hC] at e; cases e
  refine assign_one (cl := true) (b := .v (.d (.list ds))) eo₁ a1 a2 a3 ownOk_v (fun _ _ => qi) fun s'' m' eo' => ?_
  have w : ∀ b, Wr true cx env b ∨ b = C → s₀.heap.get? b = none ∧ g'.get? b = none ∧ b ≠ W.G.c := by
    rintro b (hb | rfl)
    · have w := Wr.safe eo₁ b hb
      exact ⟨none_of_ge hL (Wr.anc eo₁ hb), w.1, w.2⟩
    · exact ⟨st.dead hC hCc, hCg, hCc⟩
  have hm' : s''.heap.Ns C m := by
    obtain ⟨h', tk, rfl, kp⟩ := m'
    exact hm.at' fun o e => kp _ _ (fun z => nC _ z rfl) e
  refine ⟨m, hm', fun h' hsb => ?_⟩
  have mv : Moved (fun b => Wr true cx env b ∨ b = C) s' { s'' with heap := h' } := by
    obtain ⟨h1, t1, rfl, k1⟩ := m'
    exact ⟨h', t1, rfl, fun b o hb e => (hsb.2 b fun z => hb (.inr z)).trans (k1 b o (fun z => hb (.inl z)) e)⟩
  have eo'' : EnvOk W.G cx κ g' h' env (ρ.set i (.v (.d (.list ds)))) := by
    refine EnvOk.moved (M := (· = C)) eo' (s' := { s'' with heap := h' }) ⟨h', s''.toks, rfl, fun b o hb e => (hsb.2 b hb).trans e⟩ ?_
    rintro b hb rfl
    have : EnvAt cx κ env ρ b := by
      rcases hb with hb | hb | ⟨x, j, ds, z1, z2, z3⟩
      · exact .inl hb
      · exact .inr (.inl hb)
      · rcases set_get z2 with ⟨_, e⟩ | ⟨_, z2⟩
        · cases e
        · exact .inr (.inr ⟨x, j, ds, z1, z2, z3⟩)
    obtain ⟨o, e⟩ := eo.live (fun x i ds z _ => hv x i z) this
    rw [hC] at e; cases e
  have fm' := ((fm.step st').moved mv fun b hb => hb.elim (fun z => .inl (Wr.at z)) fun z => .inr (z ▸ fm.dead hC)).swap (ρ' := ρ.set i (.v (.d (.list ds)))) fun a h => .inl (At.set rfl h)
  exact wpAny_pure (wpAny_pure (k.next rm ((st.trans st').moved mv w) eo'' fm' hL rfl h2 rfl))
end
end Mine

namespace Mine
open PySem PySem.W PyProof.Rows PySem.Calls

section
variable {W : Wd} {A : Around} {cx : Cx} {κ : Anc} {env : Env} {ρ ρ' : List Bnd} {s s₀ : Shared} {g g₀ : Heap} {σ σ' : Sg}
theorem bind_one {x : Str} {i : Nat} {v : Value} {b : Bnd} {G : Cfg} {Q : Unit → Shared → Prop} {F : Value → Shared → Prop} (eo : EnvOk G cx κ g s.heap env ρ) (hk : cx.kindOf x = some .local) (hΓ : cx.Γ.lookup x = some i) (hj : slotInj cx x i) (ho : ownOk κ ρ i b)
    (hb : ∀ h' : Heap, (∀ a o, ¬ Wr false cx env a → s.heap.get? a = some o → h'.get? a = some o) → BndIs G κ i g h' v b) (q : ∀ s', Moved (Wr false cx env) s s' → EnvOk G cx κ g s'.heap env (ρ.set i b) → Q () s') :
    wpAny (model G.prog G.w) A (bindName env x v) Q F s := by
  have fn := env_fn eo
  have ko := kindOf_eq eo x
  obtain ⟨m, hn, _⟩ := eo.vars
  refine wpAny_bindName (wpAny_storeName_local (ko.trans hk) hn (fun h' hn' hs => ?_) (by rw [fn]; rfl))
  have k : ∀ a o, ¬ Wr false cx env a → s.heap.get? a = some o → h'.get? a = some o := fun a o na e => (hs.2 a fun z => na (.inl z)).trans e
  exact q _ (.same k) (env_store_local eo hk hΓ hj ho hn hn' hs (hb h' k))
theorem SndS.asg2 {x y : Str} {i j : Nat} {px py pt pv pos : Pos} {k1 k2 : Nat} {a b : Expr} {ea eb : E} {rest : List Stmt} {S : Mine.S} (hx : cx.kindOf x = some .local ∧ cx.Γ.lookup x = some i ∧ slotInj cx x i) (hy : cx.kindOf y = some .local ∧ cx.Γ.lookup y = some j ∧ slotInj cx y j) (hij : i ≠ j)
    (ha : SndE W cx a ea) (hb : SndE W cx b eb) (k : SndS W cx rest S) (hw : ∀ env : Env, env.scope = cx.sc → swappedStores [.Tuple [.Name x px, .Name y py] k1 pt] (.Tuple [a, b] k2 pv) env = pure (some [x, y])) (n1 : notStar a = true := by rfl) (n2 : notStar b = true := by rfl) :
    SndS W cx (.Assign [.Tuple [.Name x px, .Name y py] k1 pt] (.Tuple [a, b] k2 pv) pos :: rest) (.asg2 i j ea eb S) := fun κ fr A s₀ g₀ s g σ env ρ out rm st eo fm hL he => by
  simp only [evS, Option.bind_eq_some_iff] at he
  obtain ⟨⟨u, σ₁⟩, h1, ⟨w, σ₂⟩, h2, h3⟩ := he
  obtain ⟨x1, x2, x3⟩ := hx
  obtain ⟨y1, y2, y3⟩ := hy
  refine wpAny_execs_cons (Assign_Tuple_swapped (wpAny_Tuple ?_) rfl (hw env eo.sc))
  refine spliced_more ?_ (star_of n1)
  refine (ha.one rm st.inv eo h1).use fun v₁ s₁ g₁ st₁ q₁ => ?_
  have eo₁ := eo.step st₁
  refine spliced_more ?_ (star_of n2)
  refine (hb.one rm st₁.inv eo₁ h2).use fun v₂ s₂ g₂ st₂ q₂ => ?_
  have eo₂ := eo₁.step st₂
  refine spliced_none ⟨by show 2 ≤ sizeLine; decide, ?_⟩
  have q₁' := IsV.mono q₁ st₂.grow
  have keep : ∀ b o, s₂.heap.get? b = some o → (s₂.heap.push { cls := .type "tuple", data := .seq [v₁, v₂].toArray }).get? b = some o := fun b o e => Heap.get?_push_of_some _ e
  refine unpackItems_tuple (items := #[v₁, v₂]) rm.handled ⟨_, Heap.get?_push_size _ rfl, rfl, 0, rfl⟩ fun h' hx => ?_
  have keep' : ∀ b o, s₂.heap.get? b = some o → h'.get? b = some o := fun b o e => hx b o (Nat.ne_of_lt (Heap.lt_size (keep b o e))) (keep b o e)
  have st₃ := Stp.keepAll (G := W.G) (tk := s₂.toks) st₂.inv keep'
  have eo₃ := eo₂.step st₃
  have stT := st.trans (st₁.trans (st₂.trans st₃))
  have fm₃ := ((fm.step st₁).step st₂).step st₃
  show wpAny _ _ (assignInOrder [bindName env y, bindName env x] [v₂, v₁]) _ _ _
  refine wpAny_bind (wpAny_holding ?_)
  refine bind_one (s := { s₂ with heap := h' }) (b := .v w) eo₃ y1 y2 y3 ownOk_v (fun _ _ => q₂) fun s₄ m₄ eo₄ => ?_
  refine wpAny_bind (wpAny_holding ?_)
  refine bind_one (b := .v u) eo₄ x1 x2 x3 ownOk_v (fun _ _ => q₁') fun s₅ m₅ eo₅ => wpAny_pure ?_
  rw [List.set_comm _ _ (Ne.symm hij)] at eo₅
  have sf : ∀ b, Wr false cx env b → s₀.heap.get? b = none ∧ g₂.get? b = none ∧ b ≠ W.G.c := fun b hb => by
    have w := Wr.safe eo₃ b hb
    exact ⟨none_of_ge hL (Wr.anc eo₃ hb), w.1, w.2⟩
  have fm₅ := (fm₃.asg (b := .v w) (i := j) m₄ rfl).asg (b := .v u) (i := i) m₅ rfl
  rw [List.set_comm _ _ (Ne.symm hij)] at fm₅
  exact k.next rm ((stT.moved m₄ sf).moved m₅ sf) eo₅ fm₅ hL rfl h3 rfl

/-! a new list, that changes *)-/
theorem EnvOk.anc {κ' : Anc} {h : Heap} {i : Nat} {G : Cfg} (eo : EnvOk G cx κ g h env (ρ.set i .un)) (hL : κ'.L = κ.L) (hf : ∀ j, j ≠ i → κ'.f j = κ.f j) : EnvOk G cx κ' g h env (ρ.set i .un) where
  sc := eo.sc
  kind := eo.kind
  glob := eo.glob
  bui := eo.bui
  above := hL ▸ eo.above
  lc := eo.lc
  lg := eo.lg
  vars := by
    obtain ⟨m, hn, f⟩ := eo.vars
    refine ⟨m, hn, fun y j b h1 h2 h3 h4 => ?_⟩
    obtain ⟨v, e, q⟩ := f y j b h1 h2 h3 h4
    refine ⟨v, e, ?_⟩
    rcases set_get h2 with ⟨_, rfl⟩ | ⟨n, _⟩
    · exact absurd rfl h3
    · cases b with
      | un => trivial
      | v _ => exact q
      | own ds =>
        obtain ⟨vs, e, q⟩ := q
        rw [← hf j (Ne.symm n), ← hL] at q
        rw [← hf j (Ne.symm n)] at e
        exact ⟨vs, e, q⟩
  cells := fun y j b h1 h2 h3 h4 => by
    obtain ⟨a, v, e, c, q⟩ := eo.cells y j b h1 h2 h3 h4
    refine ⟨a, v, e, c, ?_⟩
    rcases set_get h2 with ⟨_, rfl⟩ | ⟨n, _⟩
    · exact absurd rfl h3
    · cases b with
      | un => trivial
      | v _ => exact q
      | own ds =>
        obtain ⟨vs, e, q⟩ := q
        rw [← hf j (Ne.symm n), ← hL] at q
        rw [← hf j (Ne.symm n)] at e
        exact ⟨vs, e, q⟩
  clo := eo.clo
  cc := eo.cc
  cL := fun y a h1 h2 => hL ▸ eo.cL y a h1 h2
  ap := fun j k b b' h1 h2 h3 h4 h5 => by
    have hj : j ≠ i := by
      rintro rfl
      rcases set_get h1 with ⟨_, rfl⟩ | ⟨n, _⟩
      · cases h3
      · exact n rfl
    have hk : k ≠ i := by
      rintro rfl
      rcases set_get h2 with ⟨_, rfl⟩ | ⟨n, _⟩
      · cases h4
      · exact n rfl
    rw [hf j hj, hf k hk] at h5
    exact eo.ap j k b b' h1 h2 h3 h4 h5
  apc := eo.apc
theorem any_own {ρ : List Bnd} (h : ¬ ρ.any ownB = true) {j : Nat} {b : Bnd} (e : ρ[j]? = some b) : isOwn b = false := by
  cases q : ownB b with
  | false => exact q
  | true => exact absurd (List.any_eq_true.mpr ⟨b, List.mem_of_getElem? e, q⟩) h
theorem SndS.new {as : List Expr} {x : Str} {i : Nat} {p q pos : Pos} {e : E} {rest : List Stmt} {S : Mine.S} (ha : asgOk cx x i) (h : SndEs W cx as e) (k : SndS W cx rest S) :
    SndS W cx (.Assign [.Name x p] (.List as q) pos :: rest) (.new i e S) := fun κ fr A s₀ g₀ s g σ env ρ out rm st eo fm hL he => by
  simp only [evS, Option.bind_eq_some_iff] at he
  obtain ⟨⟨ys, σ₁⟩, h1, ds, h2, d, h3, h4⟩ := he
  split at h4
  · cases h4
  rename_i hno
  obtain ⟨rfl, hl⟩ := mkL_eq h3
  obtain ⟨a1, a2, a3⟩ := ha
  refine wpAny_execs_cons (wpAny_Assign_stores (wpAny_List ((h A s g σ env ρ ys σ₁ q rm st.inv eo h1).use fun vs s₁ g₁ st₁ r => ?_)) rfl rfl)
  have hI := r.datas h2
  refine ⟨lim_line (by rw [hI.length]; exact hl), ?_⟩
  have eo₁ := (eo.step st₁).un i
  have keep : ∀ b o, s₁.heap.get? b = some o → (s₁.heap.push { cls := .type "list", data := .seq vs.toArray }).get? b = some o := fun b o e => Heap.get?_push_of_some _ e
  have st₂ := Stp.keepAll (G := W.G) (tk := s₁.toks) st₁.inv keep
  have hD : (s₁.heap.push { cls := .type "list", data := .seq vs.toArray }).get? s₁.heap.objs.size = some { cls := .type "list", data := .seq vs.toArray } := Heap.get?_push_size _ rfl
  have dead := size_none (h := s₁.heap)
  have eo₂ := (eo₁.step st₂).anc (κ' := ⟨κ.L, fun j => if j = i then s₁.heap.objs.size else κ.f j⟩) rfl fun j hj => by simp [hj]
  have stT := st.trans (st₁.trans st₂)
  have fm₂ := (fm.step st₁).step st₂
  have hfr : fr s₁.heap.objs.size = none := (fm.step st₁).dead dead
  have nW : ¬ Wr true cx env s₁.heap.objs.size := by
    rintro (z | ⟨_, x, _, z⟩)
    · obtain ⟨o, e⟩ := (eo.step st₁).locals_live
      rw [← z, dead] at e; cases e
    · obtain ⟨_, _, v, o, e, _⟩ := (eo.step st₁).cc _ _ z
      rw [dead] at e; cases e
  have nc : s₁.heap.objs.size ≠ W.G.c := by
    intro z
    obtain ⟨o, e⟩ := c_live st₁.inv
    rw [← z, dead] at e; cases e
  have gn : g₁.get? s₁.heap.objs.size = none := by
    cases e : g₁.get? s₁.heap.objs.size with
    | none => rfl
    | some o => rw [st₁.inv.sub _ _ e] at dead; cases dead
  have aL : κ.L ≤ s₁.heap.objs.size := by
    obtain ⟨o, e⟩ := (eo.step st₁).locals_live
    exact Nat.le_trans eo.above (Nat.le_of_lt (Heap.lt_size e))
  show wpAny _ _ (assign (.Name x p) env _) _ _ _
  refine assign_one (cl := true) (b := .own ds) eo₂ a1 a2 a3 (fun _ j b' z1 z2 _ => ?_) (fun h' kp => ?_) fun s' m eo' => ?_
  · rw [any_own hno z1] at z2; cases z2
  · have hf : (if i = i then s₁.heap.objs.size else κ.f i) = s₁.heap.objs.size := by simp
    refine ⟨vs.toArray, ?_, ⟨0, ?_⟩, ?_, ?_, ?_, ?_, hl⟩
    · show _ = Value.ref (if i = i then _ else _); rw [hf]
    · show h'.get? (if i = i then _ else _) = _; rw [hf]; exact kp _ _ nW hD
    · simpa using hI
    · show g₁.get? (if i = i then _ else _) = _; rw [hf]; exact gn
    · show (if i = i then _ else _) ≠ _; rw [hf]; exact nc
    · show _ ≤ (if i = i then _ else _); rw [hf]; exact aL
  · rw [List.set_set] at eo'
    have sf : ∀ b, Wr true cx env b → s₀.heap.get? b = none ∧ g₁.get? b = none ∧ b ≠ W.G.c := fun b hb => by
      have w := Wr.safe eo₂ b hb
      exact ⟨none_of_ge hL (Wr.anc eo₂ hb), w.1, w.2⟩
    refine k.next rm (stT.moved m sf) eo' ?_ hL rfl h4 rfl
    refine (fm₂.moved m fun b hb => .inl (Wr.at hb)).swap fun b hb => ?_
    rcases hb with hb | hb | ⟨j, ds', nm, z, e⟩
    · exact .inl (.inl hb)
    · exact .inl (.inr (.inl hb))
    · right
      rcases set_get z with ⟨rfl, _⟩ | ⟨n, z⟩
      · rw [e]; show fr (if i = i then _ else _) = _; rw [if_pos rfl]; exact hfr
      · exfalso
        have : (ρ.set i .un)[j]? = some (.own ds') := by rw [List.getElem?_set]; rw [if_neg n]; exact z
        have := any_own hno this; cases this

/-! it is let alone from here on *)-/
theorem At.own {i : Nat} {ds : List PyData} {x : Str} (hx : cx.Γ.lookup x = some i) (hk : cx.var x = true) (h : ρ[i]? = some (.own ds)) : At cx κ env ρ (κ.f i) := .inr (.inr ⟨i, ds, ⟨x, hx, hk⟩, h, rfl⟩)
theorem own_info {x : Str} {i : Nat} {ds : List PyData} {G : Cfg} {h : Heap} (eo : EnvOk G cx κ g h env ρ) (hx : cx.Γ.lookup x = some i) (hk : cx.var x = true) (hi : ρ[i]? = some (.own ds)) :
    ∃ vs, h.PlainList (κ.f i) vs ∧ IsAll g vs.toList ds ∧ g.get? (κ.f i) = none ∧ κ.f i ≠ G.c ∧ κ.L ≤ κ.f i ∧ ds.length ≤ lim := by
  unfold Cx.var at hk
  simp only [Bool.or_eq_true, beq_iff_eq] at hk
  rcases hk with (hk | hk) | hk
  · obtain ⟨m, hns, hv⟩ := eo.vars
    obtain ⟨v, e, vs, r⟩ := hv x i _ hx hi (by simp) hk
    exact ⟨vs, r.2⟩
  · obtain ⟨a, v, e, hc', vs, r⟩ := eo.cells x i _ hx hi (by simp) (.inl hk)
    exact ⟨vs, r.2⟩
  · obtain ⟨a, v, e, hc', vs, r⟩ := eo.cells x i _ hx hi (by simp) (.inr hk)
    exact ⟨vs, r.2⟩
theorem SndS.frz {x : Str} {i : Nat} {stmts : List Stmt} {S : Mine.S} (hx : cx.Γ.lookup x = some i) (hk : cx.var x = true) (k : SndS W cx stmts S) : SndS W cx stmts (.frz i S) := fun κ fr A s₀ g₀ s g σ env ρ out rm st eo fm hL he => by
  simp only [evS] at he
  split at he
  · rename_i ds hi
    obtain ⟨vs, ⟨n, hp⟩, hI, hg, hc, hl, _⟩ := own_info eo hx hk hi
    have sub := st.inv.sub
    have nL : env.locals ≠ κ.f i := fun z => by
      obtain ⟨m, hn, _⟩ := eo.vars
      exact ns_not_seq hn (z ▸ hp) ⟨_, _, rfl⟩
    have nC : ∀ y a, env.cells.lookup y = some a → a ≠ κ.f i := fun y a e z => by
      obtain ⟨_, _, v, hcell⟩ := eo.cc y a e
      exact cell_not_seq hcell (z ▸ hp) ⟨_, _, rfl⟩
    have none_of : ∀ b, g.get? b = none → b ≠ κ.f i → (Mine.frz g s.heap (· = κ.f i)).get? b = none := fun b h1 h2 => by
      cases e : (Mine.frz g s.heap (· = κ.f i)).get? b with
      | none => rfl
      | some o =>
        rcases frz_inv sub e with e | e
        · rw [h1] at e; cases e
        · exact absurd e h2
    have inv : Inv W.G (Mine.frz g s.heap (· = κ.f i)) σ s := ⟨st.inv.base.trans (frz_grow sub), frz_sub, none_of _ st.inv.gc (Ne.symm hc), st.inv.shr.at (fun _ _ e => e) (frz_grow sub)⟩
    have st' : Stp W.G s₀ g₀ σ s (Mine.frz g s.heap (· = κ.f i)) := ⟨st.same, st.keep, st.grow.trans (frz_grow sub), fun b o e => by
      rcases frz_inv sub e with e | e
      · exact st.fresh b o e
      · right; rw [e]; exact none_of_ge hL hl, inv⟩
    have new : Is (Mine.frz g s.heap (· = κ.f i)) (.ref (κ.f i)) (.list ds) := Is.list (frz_new rfl hp) rfl rfl (hI.mono (frz_grow sub))
    have mv : ∀ {j : Nat} {b : Bnd} {v : Value}, ρ[j]? = some b → BndIs W.G κ j g s.heap v b → i ≠ j → BndIs W.G κ j (Mine.frz g s.heap (· = κ.f i)) s.heap v b := by
      intro j b v h1 q n
      cases b with
      | un => trivial
      | v y => exact IsV.mono q (frz_grow sub)
      | own ds' =>
        obtain ⟨vs', e, p, r, t, u⟩ := q
        exact ⟨vs', e, p, r.mono (frz_grow sub), none_of _ t fun z => n (eo.ap i j _ _ hi h1 rfl rfl z.symm), u⟩
    have to : ∀ {j : Nat} {b : Bnd} {v : Value}, (∀ c, ρ[j]? = some c → c ≠ .un → BndIs W.G κ j g s.heap v c) → (ρ.set i (.v (.d (.list ds))))[j]? = some b → b ≠ .un → BndIs W.G κ j (Mine.frz g s.heap (· = κ.f i)) s.heap v b := by
      intro j b v f h1 h2
      rcases set_get h1 with ⟨rfl, rfl⟩ | ⟨n, h1⟩
      · obtain ⟨vs', e, _⟩ := f _ hi (by simp)
        rw [e]; exact new
      · exact mv h1 (f b h1 h2) n
    have eo' : EnvOk W.G cx κ (Mine.frz g s.heap (· = κ.f i)) s.heap env (ρ.set i (.v (.d (.list ds)))) := by
      refine ⟨eo.sc, eo.kind, eo.glob, eo.bui, eo.above, eo.lc, none_of _ eo.lg nL, ?_, fun y j b h1 h2 h3 h4 => ?_, eo.clo, fun y a e => ?_, eo.cL, fun j k b b' h1 h2 h3 h4 h5 => ?_, eo.apc⟩
      · obtain ⟨m, hn, f⟩ := eo.vars
        refine ⟨m, hn, fun y j b h1 h2 h3 h4 => ?_⟩
        have : ∃ c, ρ[j]? = some c ∧ c ≠ .un := by
          rcases set_get h2 with ⟨rfl, rfl⟩ | ⟨n, h2⟩
          · exact ⟨_, hi, by simp⟩
          · exact ⟨b, h2, h3⟩
        obtain ⟨c, hc1, hc2⟩ := this
        obtain ⟨v, e, q⟩ := f y j c h1 hc1 hc2 h4
        exact ⟨v, e, to (fun c' z _ => by rw [hc1] at z; cases z; exact q) h2 h3⟩
      · have : ∃ c, ρ[j]? = some c ∧ c ≠ .un := by
          rcases set_get h2 with ⟨rfl, rfl⟩ | ⟨n, h2⟩
          · exact ⟨_, hi, by simp⟩
          · exact ⟨b, h2, h3⟩
        obtain ⟨c, hc1, hc2⟩ := this
        obtain ⟨a, v, e, hcell, q⟩ := eo.cells y j c h1 hc1 hc2 h4
        exact ⟨a, v, e, hcell, to (fun c' z _ => by rw [hc1] at z; cases z; exact q) h2 h3⟩
      · obtain ⟨z1, z2, z3⟩ := eo.cc y a e
        exact ⟨z1, none_of _ z2 (nC y a e), z3⟩
      · rcases set_get h1 with ⟨_, rfl⟩ | ⟨_, h1⟩
        · cases h3
        · rcases set_get h2 with ⟨_, rfl⟩ | ⟨_, h2⟩
          · cases h4
          · exact eo.ap j k b b' h1 h2 h3 h4 h5
    refine k A s₀ g₀ s _ σ env _ out rm st' eo' (fun b o e => ?_) hL he
    obtain ⟨z1, z2, z3, z4⟩ := fm b o e
    exact ⟨z1, z2, none_of _ z3 fun z => z4 (z ▸ At.own hx hk hi), fun z => z4 (At.set rfl z)⟩
  · cases he
theorem SndS.ifS {c : Expr} {b₁ b₂ : List Stmt} {ec : E} {S₁ S₂ S : Mine.S} {pos : Pos} {rest : List Stmt} (hc : SndB W cx c ec) (h₁ : SndS W cx b₁ S₁) (h₂ : SndS W cx b₂ S₂) (k : SndS W cx rest S) :
    SndS W cx (.If c b₁ b₂ pos :: rest) (.ifS ec S₁ S₂ S) := fun κ fr A s₀ g₀ s g σ env ρ out rm st eo fm hL he => by
  simp only [evS, Option.bind_eq_some_iff] at he
  obtain ⟨⟨b, σ₁⟩, h1, h2⟩ := he
  unfold thenS at h2
  obtain ⟨o, h3, h4⟩ := Option.bind_eq_some_iff.mp h2
  refine wpAny_execs_cons (wpAny_If ((hc A s g σ env ρ b σ₁ rm st.inv eo h1).use fun b' s₁ g₁ st₁ q => ?_))
  subst q
  have fin : ∀ fl s', OutOk W cx κ fr s₀ g₀ env o fl s' → (match fl with
      | Flow.next => wpAny (model W.G.prog W.G.w) A (execs rest env) (OutOk W cx κ fr s₀ g₀ env out) (fun _ _ => False) s'
      | f => OutOk W cx κ fr s₀ g₀ env out f s') := fun fl s' q => by
    obtain ⟨g', q⟩ := q
    cases o with
    | next ρ' σ' =>
      obtain ⟨rfl, st', κ', e, eo', fm'⟩ := q
      exact k.next rm st' eo' fm' hL e h4 rfl
    | ret v σ' =>
      obtain ⟨r, rfl, st', q⟩ := q
      simp only [Option.some.injEq] at h4
      subst h4
      exact ⟨g', r, rfl, st', q⟩
  cases b' with
  | true => exact wpAny_mono (h₁ A s₀ g₀ s₁ g₁ σ₁ env ρ o rm (st.trans st₁) (eo.step st₁) (fm.step st₁) hL h3) fin fun _ _ f => f
  | false => exact wpAny_mono (h₂ A s₀ g₀ s₁ g₁ σ₁ env ρ o rm (st.trans st₁) (eo.step st₁) (fm.step st₁) hL h3) fin fun _ _ f => f
end
end Mine

namespace Mine
open PySem PySem.W PyProof.Rows PySem.Calls

section
variable {W : Wd} {A : Around} {cx : Cx} {κ : Anc} {env : Env} {ρ ρ' : List Bnd} {s s₀ : Shared} {g g₀ : Heap} {σ σ' : Sg}
/-- the changing list of slot i is another one, at its place *)-/
theorem EnvOk.own {h h' : Heap} {G : Cfg} {i : Nat} {ds ds' : List PyData} {vs : Array Value} (eo : EnvOk G cx κ g h env ρ) (hi : ρ[i]? = some (.own ds)) (hs : ∀ b, b ≠ κ.f i → h'.get? b = h.get? b) (hp : h.PlainList (κ.f i) vs) {ws : Array Value} (hp' : h'.PlainList (κ.f i) ws) (hI : IsAll g ws.toList ds') (hl : ds'.length ≤ lim) :
    EnvOk G cx κ g h' env (ρ.set i (.own ds')) := by
  have nL : env.locals ≠ κ.f i := fun z => by
    obtain ⟨m, hn, _⟩ := eo.vars
    obtain ⟨n, hp⟩ := hp
    exact ns_not_seq hn (z ▸ hp) ⟨_, _, rfl⟩
  have nC : ∀ y a, env.cells.lookup y = some a → a ≠ κ.f i := fun y a e z => by
    obtain ⟨_, _, v, hcell⟩ := eo.cc y a e
    obtain ⟨n, hp⟩ := hp
    exact cell_not_seq hcell (z ▸ hp) ⟨_, _, rfl⟩
  have to : ∀ {j : Nat} {b : Bnd} {v : Value}, (∀ c, ρ[j]? = some c → c ≠ .un → BndIs G κ j g h v c) → (ρ.set i (.own ds'))[j]? = some b → b ≠ .un → BndIs G κ j g h' v b := by
    intro j b v f h1 h2
    rcases set_get h1 with ⟨rfl, rfl⟩ | ⟨n, h1⟩
    · obtain ⟨_, e, _, _, r1, r2, r3, _⟩ := f _ hi (by simp)
      exact ⟨ws, e, hp', hI, r1, r2, r3, hl⟩
    · have q := f b h1 h2
      cases b with
      | un => trivial
      | v y => exact q
      | own ds'' =>
        obtain ⟨vs', e, ⟨n', p⟩, r⟩ := q
        exact ⟨vs', e, ⟨n', (hs _ fun z => n (eo.ap i j _ _ hi h1 rfl rfl z.symm)).trans p⟩, r⟩
  have lk : ∀ {j : Nat} {b : Bnd}, (ρ.set i (.own ds'))[j]? = some b → b ≠ .un → ∃ c, ρ[j]? = some c ∧ c ≠ .un := by
    intro j b h2 h3
    rcases set_get h2 with ⟨rfl, rfl⟩ | ⟨n, h2⟩
    · exact ⟨_, hi, by simp⟩
    · exact ⟨b, h2, h3⟩
  have ow : ∀ {j : Nat} {b : Bnd}, (ρ.set i (.own ds'))[j]? = some b → isOwn b = true → ∃ c, ρ[j]? = some c ∧ isOwn c = true := by
    intro j b h2 h3
    rcases set_get h2 with ⟨rfl, rfl⟩ | ⟨n, h2⟩
    · exact ⟨_, hi, rfl⟩
    · exact ⟨b, h2, h3⟩
  refine ⟨eo.sc, eo.kind, eo.glob, eo.bui, eo.above, eo.lc, eo.lg, ?_, fun y j b h1 h2 h3 h4 => ?_, eo.clo, fun y a e => ?_, eo.cL, fun j k b b' h1 h2 h3 h4 h5 => ?_, eo.apc⟩
  · obtain ⟨m, hn, f⟩ := eo.vars
    refine ⟨m, hn.at' fun o e => (hs _ nL).trans e, fun y j b h1 h2 h3 h4 => ?_⟩
    obtain ⟨c, hc1, hc2⟩ := lk h2 h3
    obtain ⟨v, e, q⟩ := f y j c h1 hc1 hc2 h4
    exact ⟨v, e, to (fun c' z _ => by rw [hc1] at z; cases z; exact q) h2 h3⟩
  · obtain ⟨c, hc1, hc2⟩ := lk h2 h3
    obtain ⟨a, v, e, ⟨o, ho, hd⟩, q⟩ := eo.cells y j c h1 hc1 hc2 h4
    exact ⟨a, v, e, ⟨o, (hs _ (nC _ _ e)).trans ho, hd⟩, to (fun c' z _ => by rw [hc1] at z; cases z; exact q) h2 h3⟩
  · obtain ⟨z1, z2, v, o, ho, hd⟩ := eo.cc y a e
    exact ⟨z1, z2, v, o, (hs _ (nC _ _ e)).trans ho, hd⟩
  · obtain ⟨c1, d1, d2⟩ := ow h1 h3
    obtain ⟨c2, f1, f2⟩ := ow h2 h4
    exact eo.ap j k _ _ d1 f1 d2 f2 h5
theorem At.own_set {i : Nat} {ds ds' : List PyData} (hi : ρ[i]? = some (.own ds)) {a : Addr} (h : At cx κ env (ρ.set i (.own ds')) a) : At cx κ env ρ a := by
  rcases h with h | h | ⟨j, ds, nm, z, e⟩
  · exact .inl h
  · exact .inr (.inl h)
  · rcases set_get z with ⟨rfl, _⟩ | ⟨_, z⟩
    · exact .inr (.inr ⟨_, _, nm, hi, e⟩)
    · exact .inr (.inr ⟨j, ds, nm, z, e⟩)
theorem list_extendW (l : Addr) (items : Array Value) (n : Nat) (b : Addr) (items2 : Array Value) (n2 : Nat) (dd : Option Addr) (sl : Array (Option Value)) (hc0 : ¬(!items.isEmpty && Builtin.List.listTooLong (items.size + items2.size)) = true) (hc1 : items.size ≤ sizeLine) (hs2 : items.size + items2.size ≤ sizeLine + 1) :
    Meets (Builtin.«list.extend» ⟨[.ref l, .ref b], []⟩) (fun _ R s => s.heap.get? l = some { cls := .type "list", dict := none, data := .seq items n, slots := #[] } ∧ s.heap.get? b = some { cls := .type "list", dict := dd, data := .seq items2 n2, slots := sl } ∧ R (.ok (.ret Value.none)) { s with heap := s.heap.update l (Obj.mapSeq fun x => x ++ items2), toks := s.toks }) :=
  .of_wp fun prog w A R s h => by
    obtain ⟨hp, g, d, tk, os⟩ := s
    obtain ⟨hl, hb, h⟩ := h
    have f1 := AutoSeq1.idx_int
    have f2 := AutoSeq1.sub_tuple_tuple
    have f3 := AutoSeq1.sub_list_list
    have f4 := AutoSeq1.sub_tuple_list
    have f5 := AutoSeq1.sub_list_tuple
    have hz' : (items ++ items2).size ≤ sizeLine + 1 := by rw [Array.size_append]; exact hs2
    wp_walk using (wpAny_updateSeq hl rfl (hz := hc1) (_hz' := hz')), wpAny_loadPart' hl, wpAny_loadPart' hb
    exact ⟨_, rfl, h⟩
theorem own_load {G : Cfg} {x : Str} {i : Nat} {ds : List PyData} {pos : Pos} {Q : Value → Shared → Prop} {F : Value → Shared → Prop} (inv : Inv W.G g σ s) (eo : EnvOk W.G cx κ g s.heap env ρ) (hx : cx.Γ.lookup x = some i) (hk : cx.var x = true) (hi : ρ[i]? = some (.own ds))
    (hd : (x == ("__debug__" : Str)) = false) (hc : (x == ("__classdict__" : Str)) = false) (q : Q (.ref (κ.f i)) s) : wpAny (model W.G.prog W.G.w) A (eval (.Name x pos) env) Q F s :=
  load_run inv eo hk hx hi (by simp) hd hc fun v ⟨vs, e, _⟩ => e ▸ q
theorem SndS.ext {x : Str} {i : Nat} {p apos cpos pos : Pos} {a : Expr} {e : E} {rest : List Stmt} {S : Mine.S} (hx : cx.Γ.lookup x = some i) (hk : cx.var x = true) (h : SndE W cx a e) (k : SndS W cx rest S)
    (hp : ∀ env, ∃ pl, eval (.Call (.Attribute (.Name x p) "extend" apos) [a] [] cpos) env = (do
      let ov ← eval (.Name x p) env
      standAt apos.atName
      let (f, first) ← holding [ov] (getMethod ov "extend" pl)
      callWith cpos f first (backTo cpos (starEach [a] env)) []) := by intro _; exact ⟨_, rfl⟩) (hn : notStar a = true := by rfl) (hd : (x == ("__debug__" : Str)) = false := by decide +kernel) (hc : (x == ("__classdict__" : Str)) = false := by decide +kernel) :
    SndS W cx (.Expr (.Call (.Attribute (.Name x p) "extend" apos) [a] [] cpos) pos :: rest) (.ext i e S) := fun κ fr A s₀ g₀ s g σ env ρ out rm st eo fm hL he => by
  simp only [evS] at he
  split at he
  · rename_i ds hi
    obtain ⟨⟨r, σ₁⟩, h1, h2⟩ := Option.bind_eq_some_iff.mp he
    dsimp only at h2
    split at h2
    · rename_i ys
      obtain ⟨d, h3, h4⟩ := Option.bind_eq_some_iff.mp h2
      obtain ⟨rfl, hl⟩ := mkL_eq h3
      have hint : interactive env = false := by unfold interactive; rw [env_fn eo]; rfl
      obtain ⟨pl, hpl⟩ := hp env
      refine wpAny_execs_cons (wpAny_Expr_any (MethodCall_ (pl := pl) (own_load (G := W.G) st.inv eo hx hk hi hd hc ?_) hpl) hint rfl)
      obtain ⟨vs, ⟨n, hp⟩, hI, hg, hcc, hLL, hz⟩ := own_info eo hx hk hi
      have hlist : s.heap.IsList (κ.f i) vs := ⟨_, hp, rfl, n, rfl⟩
      refine getMethod_list_of PySem.F.slot_list_extend PySem.F.type_list_extend hlist ?_ ?_
      · exact ⟨_, hp, rfl⟩
      refine PyProof.Rows.callWith_method1 (spliced_more ?_ (star_of hn)) (star_of hn) plain_nil
      refine (h A s g σ env ρ _ σ₁ rm st.inv eo h1).use fun u s₁ g₁ st₁ ⟨y, e, q⟩ => spliced_none ?_
      cases e
      have eo₁ := eo.step st₁
      obtain ⟨vs₁, ⟨n₁, hp₁⟩, hI₁, hg₁, _⟩ := own_info eo₁ hx hk hi
      obtain ⟨b, o, us, m, e, z1, z2, z3, z4⟩ := Is.list_inv (v := u) q
      subst e
      obtain ⟨cls, dd, data, sl⟩ := o
      simp only at z2 z3
      subst z2 z3
      have e1 := hI₁.length
      have e2 := z4.length
      simp only [Array.length_toList] at e1 e2
      rw [List.length_append] at hl
      have hsz : vs₁.size + us.size ≤ lim := by (first | lia | omega)
      have hb := st₁.inv.sub _ _ z1
      refine call_meets PySem.F.slot_list_extend ⟨_, hp₁, rfl⟩ PySem.F.entry_list_extend (PySem.F.args_list_extend_2 _ _) (list_extendW (κ.f i) vs₁ n₁ b us m dd sl ?_ (lim_line (by (first | lia | omega))) (by have := lim_line hsz; (first | lia | omega))) ⟨hp₁, hb, ?_⟩
      · have : Builtin.List.listTooLong (vs₁.size + us.size) = false := by
          unfold Builtin.List.listTooLong
          have := lim_line hsz
          simp; (first | lia | omega)
        rw [this]; simp
      have hsame : ∀ b, b ≠ κ.f i → (s₁.heap.update (κ.f i) (Obj.mapSeq fun x => x ++ us)).get? b = s₁.heap.get? b := fun b hb => Heap.get?_update_ne _ _ _ _ hb
      have hnew : (s₁.heap.update (κ.f i) (Obj.mapSeq fun x => x ++ us)).PlainList (κ.f i) (vs₁ ++ us) := ⟨_, get?_update_seq hp₁ _⟩
      have eo₂ := eo₁.own hi hsame ⟨n₁, hp₁⟩ hnew (ds' := ds ++ ys) (by rw [Array.toList_append]; exact hI₁.append z4) (by rw [List.length_append]; exact hl)
      have mv : Moved (· = κ.f i) s₁ { s₁ with heap := s₁.heap.update (κ.f i) (Obj.mapSeq fun x => x ++ us), toks := s₁.toks } := ⟨_, _, rfl, fun b o hb e => (hsame b hb).trans e⟩
      have hg1 := hg₁
      refine k.next rm ((st.trans st₁).moved mv ?_) eo₂ (((fm.step st₁).moved mv fun b hb => .inl (hb ▸ At.own hx hk hi)).swap fun a h => .inl (At.own_set hi h)) hL rfl h4 rfl
      rintro b rfl
      exact ⟨none_of_ge hL hLL, hg1, hcc⟩
    · cases h2
  · cases he

theorem Inv.fset {key : Str} {d d0 : PyData} {v : Value} {h' : Heap} {tk : Nat} {kvs : List (Str × Value)} (i : Inv W.G g σ s) (hd : s.heap.DictOf (strKind W.G.prog W.G.w) W.G.c kvs) (e : kvs.map (·.1) = σ.map (·.1)) (hi : IsAll g (kvs.map (·.2)) (σ.map (·.2))) (hl : kvs.length ≤ 100) (h0 : σ.lookup key = some d0) (hv : Is g v d)
    (hd' : h'.DictOf (strKind W.G.prog W.G.w) W.G.c (stored kvs key v)) (hs : Heap.SameBut W.G.c s.heap h') : Stp W.G s g (σ.map fun p => if p.1 = key then (key, d) else p) { s with heap := h', toks := tk } g := by
  obtain ⟨w, hw, _⟩ := pairs_at e hi h0
  have hany : kvs.any (fun kv => kv.1 = key) = true := by
    unfold valueAt at hw
    obtain ⟨p, hp, _⟩ := Option.map_eq_some_iff.mp hw
    exact List.any_eq_true.mpr ⟨p, List.mem_of_find?_eq_some hp, by simpa using List.find?_some (p := fun kv : Str × Value => decide (kv.1 = key)) hp⟩
  refine ⟨⟨_, _, rfl⟩, fun b o hb e => (hs.2 b hb).trans e, Sub.rfl, fun b o e => .inl e, i.base, fun b o e => (hs.2 b fun z => by rw [z, i.gc] at e; cases e).trans (i.sub b o e), i.gc, ?_⟩
  have : stored kvs key v = kvs.map (fun kv => if kv.1 = key then (kv.1, v) else kv) := by unfold stored; rw [if_pos hany]
  rw [this] at hd'
  obtain ⟨z1, z2⟩ := pairs_set e hi (k := key) hv
  exact ⟨_, hd', z1, z2, by rw [List.length_map]; exact hl⟩

theorem SndS.fset {x key : Str} {i : Nat} {p sp pos : Pos} {kp : Nat} {kpos : Pos} {v : Expr} {e : E} {rest : List Stmt} {S : Mine.S} (hx : cx.Γ.lookup x = some i) (hk : cx.var x = true) (h : SndE W cx v e) (k : SndS W cx rest S)
    (hs : ∀ env, swapsWith v (some (.Subscript (.Name x p) (.Constant (.str key) kp kpos) sp)) pos.line env = pure false := by intro _; rfl) (hd : (x == ("__debug__" : Str)) = false := by decide +kernel) (hc : (x == ("__classdict__" : Str)) = false := by decide +kernel) :
    SndS W cx (.Assign [.Subscript (.Name x p) (.Constant (.str key) kp kpos) sp] v pos :: rest) (.fset i key e S) := fun κ fr A s₀ g₀ s g σ env ρ out rm st eo fm hL he => by
  simp only [evS] at he
  split at he
  · rename_i hi
    obtain ⟨⟨r, σ₁⟩, h1, h2⟩ := Option.bind_eq_some_iff.mp he
    dsimp only at h2
    split at h2
    · rename_i d0 h0
      refine wpAny_execs_cons (wpAny_Assign_Subscript ((h.oneD rm st.inv eo h1).use fun u s₁ g₁ st₁ q => ?_) (hs env))
      have eo₁ := eo.step st₁
      refine load_run (W := W) st₁.inv eo₁ hk hx hi (by simp) hd hc fun w hw => ?_
      obtain rfl : w = .ref W.G.c := hw
      refine wpAny_Constant_str ?_
      obtain ⟨kvs, hd, e, hi', hl⟩ := st₁.inv.shr
      refine wpAny_setItem_pairs (strKind_is W.G.prog W.G.w key _) hd (fun h' hd' hsb => ?_) (Nat.le_trans hl (by decide))
      have st₂ := Inv.fset (tk := s₁.toks + 1 + 1) st₁.inv hd e hi' hl h0 q hd' hsb
      exact k.next rm (st.trans (st₁.trans st₂)) (eo₁.step st₂) ((fm.step st₁).step st₂) hL rfl h2 rfl
    · cases h2
  · cases he
end
end Mine

namespace Mine
open PySem PySem.W PyProof.Rows PySem.Calls

section
variable {W : Wd} {A : Around} {cx : Cx} {κ : Anc} {env : Env} {ρ ρ' : List Bnd} {s s₀ s₁ : Shared} {g g₀ : Heap} {σ σ' : Sg} {target : Expr} {t : Tgt}
theorem Stp.rebase {G : Cfg} (st : Stp G s₀ g₀ σ s g) : Stp G s₀ g σ s g := ⟨st.same, st.keep, Sub.rfl, fun _ _ e => .inl e, st.inv⟩
theorem Stp.over {G : Cfg} {s' : Shared} {g' : Heap} (st : Stp G s₀ g₀ σ s g) (st' : Stp G s₀ g σ' s' g') : Stp G s₀ g₀ σ' s' g' :=
  ⟨st'.same, st'.keep, st.grow.trans st'.grow, fun b o e => (st'.fresh b o e).elim (st.fresh b o) .inr, st'.inv⟩
theorem EnvAt.at {b : Addr} (hv : ∀ x i, cx.Γ.lookup x = some i → cx.var x = true) (h : EnvAt cx κ env ρ b) : At cx κ env ρ b := by
  rcases h with h | h | ⟨x, i, ds, h1, h2, h3⟩
  · exact .inl h
  · exact .inr (.inl h)
  · exact .inr (.inr ⟨i, ds, ⟨x, h1, hv x i h1⟩, h2, h3⟩)
theorem At.live {G : Cfg} {h : Heap} (eo : EnvOk G cx κ g h env ρ) {b : Addr} (hb : At cx κ env ρ b) : ∃ o, h.get? b = some o := by
  rcases hb with rfl | ⟨x, e⟩ | ⟨j, ds, ⟨x, h1, h2⟩, h3, rfl⟩
  · obtain ⟨m, ⟨o, es, ep, ho, _⟩, _⟩ := eo.vars
    exact ⟨o, ho⟩
  · obtain ⟨_, _, v, o, e, _⟩ := eo.cc x b e
    exact ⟨o, e⟩
  · obtain ⟨vs, ⟨n, hp⟩, _⟩ := own_info eo h1 h2 h3
    exact ⟨_, hp⟩
theorem bindT_own {t : Tgt} {x : PyData} (hb : bindT t x ρ = some ρ') {j : Nat} {ds : List PyData} (h : ρ'[j]? = some (.own ds)) : ρ[j]? = some (.own ds) := by
  cases t with
  | one i =>
    simp only [bindT, Option.some.injEq] at hb
    subst hb
    rcases set_get h with ⟨_, e⟩ | ⟨_, h⟩
    · cases e
    · exact h
  | two i k =>
    have : ∃ a b, ρ' = (ρ.set i (.v (.d a))).set k (.v (.d b)) := by
      cases x with
      | tuple ys =>
        match ys, hb with
        | [a, c], hb =>
          simp only [Mine.bindT, Option.some.injEq] at hb
          exact ⟨a, c, hb.symm⟩
        | [], hb => simp [Mine.bindT] at hb
        | [_], hb => simp [Mine.bindT] at hb
        | _ :: _ :: _ :: _, hb => simp [Mine.bindT] at hb
      | _ => simp [Mine.bindT] at hb
    obtain ⟨a, b, rfl⟩ := this
    rcases set_get h with ⟨_, e⟩ | ⟨_, h⟩
    · cases e
    · rcases set_get h with ⟨_, e⟩ | ⟨_, h⟩
      · cases e
      · exact h
theorem At.bindT {t : Tgt} {x : PyData} (hb : bindT t x ρ = some ρ') {a : Addr} (h : At cx κ env ρ' a) : At cx κ env ρ a := by
  rcases h with h | h | ⟨j, ds, nm, z, e⟩
  · exact .inl h
  · exact .inr (.inl h)
  · exact .inr (.inr ⟨j, ds, nm, bindT_own hb z, e⟩)
noncomputable def ForI (W : Wd) (cx : Cx) (κ : Anc) (fr : Addr → Option Obj) (s₀ : Shared) (g₀ g₂ : Heap) (env : Env) (xs : List PyData) (wr : List Addr) (St : Nat → Heap → Prop) (f : PyData → List Bnd → Sg → Option Out) (o : Out) (n : Nat) (s' : Shared) : Prop :=
  ∃ i ρi σi gi, ∃ κi : Anc, i ≤ xs.length ∧ n = xs.length - i ∧ Stp W.G s₀ g₀ σi s' gi ∧ Sub g₂ gi ∧ κi.L = κ.L ∧ EnvOk W.G cx κi gi s'.heap env ρi ∧ Fm W.G cx (fun b => if b ∈ wr then s'.heap.get? b else fr b) κi env ρi gi s'.heap ∧ St i s'.heap ∧ forGo f (xs.drop i) ρi σi = some o
theorem SndS.forS {iter : Expr} {body : List Stmt} {it : E} {B S : Mine.S} {pos : Pos} {rest : List Stmt} (hI : SndI W cx target (tgtOwn t) iter it) (ht : TgtOk true cx target t) (hb : SndS W cx body B) (k : SndS W cx rest S) (hfo : foldedOk iter) (hv : ∀ x i, cx.Γ.lookup x = some i → cx.var x = true) :
    SndS W cx (.For target iter body [] pos :: rest) (.forS t it B S) := fun κ fr A s₀ g₀ s g σ env ρ out rm st eo fm hL he => by
  have hh := rm.handled
  simp only [evS, Option.bind_eq_some_iff] at he
  obtain ⟨⟨xs, σ₁⟩, h1, h2⟩ := he
  unfold thenS at h2
  obtain ⟨o, h3, h4⟩ := Option.bind_eq_some_iff.mp h2
  refine wpAny_execs_cons (wpAny_For (wpAny_mono (hI A s g σ env ρ xs σ₁ hh rm st.inv eo h1) (fun x s₁ hw => wpAny_mono hw (fun itv s₂ ⟨g₂, I, ei, st₂, K⟩ => ?_) fun _ _ f => f) fun _ _ f => f) (fun x => hfo env x))
  subst ei
  obtain ⟨fp, wr, P, Md, St, kt, hst, hitem, hwr, hfp, hself, hlive⟩ := K.ex
  have eo₂ := eo.step st₂
  have gone : ∀ b, b ∈ wr → fr b = none := fun b hb => fm.dead (hwr b hb).1
  have start : ForI W cx κ fr s₀ g₀ g₂ env xs wr St (fun x ρ σ => (bindT t x ρ).bind fun ρ' => evS W.glo W.R B ρ' σ) o xs.length s₂ := by
    refine ⟨0, ρ, σ₁, g₂, κ, Nat.zero_le _, rfl, st.trans st₂, Sub.rfl, rfl, eo₂, fun b ob e => ?_, hst, h3⟩
    dsimp only at e
    split at e
    · rename_i hb
      obtain ⟨z1, z2, _⟩ := hwr b hb
      refine ⟨e, fun z => ?_, z2, fun z => ?_⟩
      · obtain ⟨oc, hc⟩ := c_live st.inv
        rw [← z, z1] at hc; cases hc
      · obtain ⟨ob, e⟩ := At.live eo z
        rw [z1] at e; cases e
    · exact (fm.step st₂) b ob e
  refine codeAny_forLoop_any (I := ForI W cx κ fr s₀ g₀ g₂ env xs wr St (fun x ρ σ => (bindT t x ρ).bind fun ρ' => evS W.glo W.R B ρ' σ) o) (fun n s' hi => ?_) _ start
  obtain ⟨i, ρi, σi, gi, κi, hle, rfl, sti, sub, hκ, eoi, fmi, hSt, hgo⟩ := hi
  have fin : ∀ s', OutOk W cx κ fr s₀ g₀ env o .next s' → (match Flow.next with
      | Flow.next => wpAny (model W.G.prog W.G.w) A (execs rest env) (OutOk W cx κ fr s₀ g₀ env out) (fun _ _ => False) s'
      | f => OutOk W cx κ fr s₀ g₀ env out f s') := fun s' q => by
    obtain ⟨g', q⟩ := q
    cases o with
    | next ρ' σ' =>
      obtain ⟨_, st', κ', e, eo', fm'⟩ := q
      exact k.next rm st' eo' fm' hL e h4 rfl
    | ret v σ' =>
      obtain ⟨r, z, _⟩ := q
      cases z
  have wrInfo : ∀ b, b ∈ wr → b ≠ W.G.c ∧ gi.get? b = none ∧ ¬ At cx κi env ρi b := fun b hb => by
    obtain ⟨ob, e⟩ := hlive i _ hSt b hb
    have := fmi b ob ((if_pos hb).trans e)
    exact this.2
  have sfr : ∀ b, b ∈ wr → s₀.heap.get? b = none := fun b hb => by
    cases e : s₀.heap.get? b with
    | none => rfl
    | some ob =>
      have := st.keep b ob (wrInfo b hb).1 e
      rw [(hwr b hb).1] at this; cases this
  -- a move within wr
  have wrMove : ∀ (s'' : Shared), Moved (· ∈ wr) s' s'' → Stp W.G s₀ g₀ σi s'' gi ∧ EnvOk W.G cx κi gi s''.heap env ρi ∧ Fm W.G cx (fun b => if b ∈ wr then s''.heap.get? b else fr b) κi env ρi gi s''.heap := fun s'' mv => by
    refine ⟨sti.moved mv fun b hb => ⟨sfr b hb, (wrInfo b hb).2.1, (wrInfo b hb).1⟩, eoi.moved mv fun b hb hw => (wrInfo b hw).2.2 (hb.at hv), fun b ob e => ?_⟩
    dsimp only at e
    split at e
    · rename_i hb
      exact ⟨e, wrInfo b hb⟩
    · rename_i hb
      obtain ⟨z1, z2⟩ := fmi b ob ((if_neg hb).trans e)
      obtain ⟨h', tk, rfl, kp⟩ := mv
      exact ⟨kp b ob hb z1, z2⟩
  by_cases hlt : i < xs.length
  · refine kt.item i s' _ _ hlt hSt fun v h' tk hMd hk => ?_
    refine kt.go i v { s' with heap := h', toks := tk } _ _ hMd fun h'' hP hSt' hk' => ?_
    have mv : Moved (· ∈ wr) s' { s' with heap := h'', toks := tk } := ⟨h'', tk, rfl, fun b ob hb e => hk' b ob hb (hk b ob hb e)⟩
    obtain ⟨stw, eow, fmw⟩ := wrMove _ mv
    obtain ⟨x, hx, hd⟩ := hitem i v h'' hP
    have hdrop : xs.drop i = x :: xs.drop (i + 1) := by
      obtain ⟨_, e⟩ := List.getElem?_eq_some_iff.mp hx
      rw [← e]; exact List.drop_eq_getElem_cons hlt
    rw [hdrop] at hgo
    unfold forGo at hgo
    obtain ⟨r, h5, h6⟩ := Option.bind_eq_some_iff.mp hgo
    obtain ⟨ρ', h7, h8⟩ := Option.bind_eq_some_iff.mp h5
    refine bind_run hh ht stw.inv eow (hd.mono sub) h7 fun s₃ m₃ eo₃ => ?_
    have sf : ∀ b, Wr true cx env b → s₀.heap.get? b = none ∧ gi.get? b = none ∧ b ≠ W.G.c := fun b hb => by
      have w := Wr.safe (s := { s' with heap := h'', toks := tk }) eow b hb
      exact ⟨none_of_ge hL (hκ ▸ Wr.anc eow hb), w.1, w.2⟩
    have st₃ := stw.moved m₃ sf
    have keepWr : ∀ b, b ∈ wr → ∀ ob, h''.get? b = some ob → s₃.heap.get? b = some ob := fun b hb ob e => by
      obtain ⟨h3, tk3, rfl, kp⟩ := m₃
      refine kp b ob (fun z => ?_) e
      have := fmw b ob ((if_pos hb).trans e)
      exact this.2.2.2 (Wr.at z)
    have fm₃ : Fm W.G cx (fun b => if b ∈ wr then s₃.heap.get? b else fr b) κi env ρ' gi s₃.heap := by
      intro b ob e
      have : h''.get? b = some ob ∧ b ≠ W.G.c ∧ gi.get? b = none ∧ ¬ At cx κi env ρi b := by
        dsimp only at e
        split at e
        · rename_i hb
          obtain ⟨o2, e2⟩ := hlive _ _ hSt' b hb
          have e3 := keepWr b hb o2 e2
          rw [e] at e3; cases e3
          exact fmw b ob ((if_pos hb).trans e2)
        · rename_i hb
          exact fmw b ob ((if_neg hb).trans e)
      obtain ⟨z1, z2, z3, z4⟩ := this
      obtain ⟨h3, tk3, rfl, kp⟩ := m₃
      exact ⟨kp b ob (fun z => z4 (Wr.at z)) z1, z2, z3, fun z => z4 (At.bindT h7 z)⟩
    have hSt₃ : St (i + 1) s₃.heap := kt.frame _ _ _ hSt' fun b hb ob e => by
      rcases hfp b hb with hb | ⟨o2, ho2⟩
      · exact keepWr b hb ob e
      · have e2 := st₃.inv.sub _ _ (sub _ _ ho2)
        have e3 := stw.inv.sub _ _ (sub _ _ ho2)
        rw [show h''.get? b = some o2 from e3] at e; cases e
        exact e2
    refine wpAny_mono (hb A s₀ gi s₃ gi σi env ρ' r rm st₃.rebase eo₃ fm₃ (hκ ▸ hL) h8) (fun fl s₄ q => ?_) fun _ _ f => f.elim
    obtain ⟨g₄, q⟩ := q
    cases r with
    | ret v σ' =>
      obtain ⟨r, rfl, st', q⟩ := q
      simp only [Option.some.injEq] at h6
      subst h6
      simp only [Option.some.injEq] at h4
      subst h4
      exact ⟨g₄, r, rfl, st₃.over st', q⟩
    | next ρ'' σ'' =>
      obtain ⟨rfl, st', κ', e, eo', fm'⟩ := q
      refine ⟨xs.length - (i + 1), by omega, i + 1, ρ'', σ'', g₄, κ', hlt, rfl, st₃.over st', sub.trans st'.grow, e.trans hκ, eo', ?_, ?_, h6⟩
      · intro b ob z
        dsimp only at z
        split at z
        · rename_i hb
          obtain ⟨o2, e2⟩ := hlive _ _ hSt₃ b hb
          have := fm' b o2 ((if_pos hb).trans e2)
          rw [this.1] at z; cases z
          exact this
        · rename_i hb
          exact fm' b ob ((if_neg hb).trans z)
      · refine kt.frame _ _ _ hSt₃ fun b hb ob e => ?_
        rcases hfp b hb with hb | ⟨o2, ho2⟩
        · exact (fm' b ob ((if_pos hb).trans e)).1
        · have e2 := st₃.inv.sub _ _ (sub _ _ ho2)
          rw [e2] at e; cases e
          exact st'.inv.sub _ _ (st'.grow _ _ (sub _ _ ho2))
  · have hi : i = xs.length := by omega
    subst hi
    refine kt.done s' _ _ hSt fun h' tk hk => ?_
    have mv : Moved (· ∈ wr) s' { s' with heap := h', toks := tk } := ⟨h', tk, rfl, hk⟩
    obtain ⟨stw, eow, fmw⟩ := wrMove _ mv
    refine wpAny_execs_nil (fin _ ?_)
    rw [List.drop_length] at hgo
    unfold forGo at hgo
    simp only [Option.some.injEq] at hgo
    subst hgo
    refine ⟨gi, rfl, stw, κi, hκ, eow, fun b ob e => ?_⟩
    have hb : b ∉ wr := fun z => by rw [gone b z] at e; cases e
    exact fmw b ob ((if_neg hb).trans e)
end
end Mine

namespace Mine
open PySem PySem.W PyProof.Rows PySem.Calls
open PySem.AutoSeq1 (wpAny_loadPart')

section
set_option maxRecDepth 100000
theorem meets_enumT (l : Addr) (items : Array Value) (n : Nat) (dct : Option Addr) (sl : Array (Option Value)) :
    Meets (Builtin.«enumerate.__new__» ⟨[.type "enumerate", .ref l], []⟩) (fun _ R s => s.heap.get? l = some { cls := .type "tuple", dict := dct, data := .seq items n, slots := sl } ∧
      R (.ok (.ret (.ref (s.heap.push { cls := .type "tuple_iterator", data := .fields #[.ref l, .int 0 0] }).objs.size)))
        { s with heap := (s.heap.push { cls := .type "tuple_iterator", data := .fields #[.ref l, .int 0 0] }).push { cls := .type "enumerate", data := .fields #[.none, .bool false, .ref s.heap.objs.size, rawInt 0, .none, .none] } }) :=
  .of_wp fun prog w A R s h => by
    obtain ⟨hp, g, d, tk, os⟩ := s
    obtain ⟨hl, h⟩ := h
    have hsub := sub_enumerate
    have hL : Heap.IsTuple (Shared.heap ⟨hp, g, d, tk, os⟩) l items := ⟨_, hl, rfl, n, rfl⟩
    wp_walk using wpAny_loadPart' hl
    refine wpAny_stack_any fun st => wpAny_pure ?_
    split
    · rename_i c _ _ _ _ _
      cases (c == Value.type "enumerate")
      · wp_walk using wpAny_loadPart' hl, wpAny_pyIter_tuple hL
        exact ⟨_, rfl, h⟩
      · wp_walk using wpAny_loadPart' hl, wpAny_pyIter_tuple hL
        exact ⟨_, rfl, h⟩
    · wp_walk using wpAny_loadPart' hl, wpAny_pyIter_tuple hL
      exact ⟨_, rfl, h⟩
end
section
variable {prog : Program} {w : World} {A : Around} {E : Value → Shared → Prop} {s : Shared}
theorem call_enumT {l : Addr} {items : Array Value} {Q : Value → Shared → Prop} (hL : s.heap.IsTuple l items)
    (h : ∀ h', IsEnum h' (s.heap.objs.size + 1) s.heap.objs.size 0 .none → h'.IsTupleIter s.heap.objs.size l 0 → h'.objs.size = s.heap.objs.size + 2 → (∀ b o, s.heap.get? b = some o → h'.get? b = some o) → Q (.ref (s.heap.objs.size + 1)) { s with heap := h' }) :
    wpAny (model prog w) A (call (.type "enumerate") [.ref l]) Q E s := by
  obtain ⟨⟨c, dct, dt, sl⟩, hl, hc, n, hd⟩ := hL
  simp only at hc hd
  subst hc hd
  refine callType_new F.called_enumerate (by decide) (F.typeCall_enumerate_1 _) (F.newCall_enumerate_1 _) (fun obj => F.args_object_init_2 obj _) F.entry_enumerate_new (meets_enumT l items n dct sl) ⟨hl, ?_⟩
  have hz : (s.heap.push { cls := .type "tuple_iterator", data := .fields #[.ref l, .int 0 0] }).objs.size = s.heap.objs.size + 1 := Heap.size_push ..
  show _ ∧ _
  rw [hz]
  have he : IsEnum ((s.heap.push { cls := .type "tuple_iterator", data := .fields #[.ref l, .int 0 0] }).push { cls := .type "enumerate", data := .fields #[.none, .bool false, .ref s.heap.objs.size, rawInt 0, .none, .none] }) (s.heap.objs.size + 1) s.heap.objs.size 0 .none := by
    have := Heap.get?_push_size (s.heap.push { cls := .type "tuple_iterator", data := .fields #[.ref l, .int 0 0] }) (o := { cls := .type "enumerate", data := .fields #[.none, .bool false, .ref s.heap.objs.size, rawInt 0, .none, .none] }) rfl
    rw [hz] at this; exact this
  exact ⟨⟨_, he, rfl⟩, h _ he ⟨_, Heap.get?_push_of_some _ (Heap.get?_push_size _ rfl), rfl, rfl⟩ (by rw [Heap.size_push, hz]) fun b o x => Heap.get?_push_of_some _ (Heap.get?_push_of_some _ x)⟩
theorem next_tuple {it t : Addr} {i : Nat} {items} {x : Value} {Q : Value → Shared → Prop} (hit : s.heap.IsTupleIter it t i) (ht : s.heap.IsTuple t items) (hx : items[i]? = some x)
    (hQ : ∀ h', h'.IsTupleIter it t (i + 1) → Heap.SameBut it s.heap h' → Q x { s with heap := h' }) : wpAny (model prog w) A (Builtin.SmallTypes.nextOf (.ref it)) Q E s := by
  obtain ⟨o, ho, hc, hd⟩ := id hit
  obtain ⟨ol, hol, _, nl, hdl⟩ := ht
  unfold Builtin.SmallTypes.nextOf
  refine wpAny_bind (wpAny_callSpecial?_slot (name := Str.ofString "__next__") hit.typeIs F.slot_tuple_iterator_next (wpAny_call_entry F.slot_tuple_iterator_next hit.typeIs F.entry_tuple_iterator_next ?_ (F.args_tuple_iterator_next_1 _)))
  show wpAny _ _ (field (.ref it) 0 >>= _) _ _ s
  refine wpAny_bind (wpAny_field ho hd (x := .ref t) rfl ?_)
  show wpAny _ _ (if (Value.ref t == Value.none) = true then _ else _) _ _ s
  rw [if_neg (show ¬ ((Value.ref t == Value.none) = true) from Bool.false_ne_true)]
  show wpAny _ _ (field (.ref it) 1 >>= _) _ _ s
  refine wpAny_bind (wpAny_field ho hd (x := .int i 0) rfl ?_)
  show wpAny _ _ (seqItems? (.ref t) >>= _) _ _ s
  refine wpAny_bind (wpAny_seqItems hol hdl ?_)
  simp only [Int.toNat_natCast, hx]
  refine wpAny_bind (wpAny_setField ho hd (by simp) (wpAny_pure ⟨x, rfl, wpAny_pure (hQ _ ?_ (Heap.SameBut.update ..))⟩))
  exact ⟨_, Heap.get?_update_self _ ho (Obj.isFreed_of_fields (Obj.data_mapFields hd _)), (Obj.cls_mapFields ..).trans hc, by rw [Obj.data_mapFields hd]; simp [rawInt]⟩
theorem next_tuple_end {it t : Addr} {i : Nat} {items} {Q : Value → Shared → Prop} (hh : A.handled = none) (hit : s.heap.IsTupleIter it t i) (ht : s.heap.IsTuple t items) (hx : items[i]? = none)
    (hE : ∀ h' e, Heap.ExtBut it s.heap h' → (∃ o, h'.get? e = some o ∧ o.cls = .type "StopIteration") → E (.ref e) { s with heap := h' }) : wpAny (model prog w) A (Builtin.SmallTypes.nextOf (.ref it)) Q E s := by
  obtain ⟨o, ho, hc, hd⟩ := id hit
  obtain ⟨ol, hol, _, nl, hdl⟩ := ht
  unfold Builtin.SmallTypes.nextOf
  refine wpAny_bind (wpAny_callSpecial?_slot (name := Str.ofString "__next__") hit.typeIs F.slot_tuple_iterator_next (wpAny_call_entry F.slot_tuple_iterator_next hit.typeIs F.entry_tuple_iterator_next ?_ (F.args_tuple_iterator_next_1 _)))
  show wpAny _ _ (field (.ref it) 0 >>= _) _ _ s
  refine wpAny_bind (wpAny_field ho hd (x := .ref t) rfl ?_)
  show wpAny _ _ (if (Value.ref t == Value.none) = true then _ else _) _ _ s
  rw [if_neg (show ¬ ((Value.ref t == Value.none) = true) from Bool.false_ne_true)]
  show wpAny _ _ (field (.ref it) 1 >>= _) _ _ s
  refine wpAny_bind (wpAny_field ho hd (x := .int i 0) rfl ?_)
  show wpAny _ _ (seqItems? (.ref t) >>= _) _ _ s
  refine wpAny_bind (wpAny_seqItems hol hdl ?_)
  simp only [Int.toNat_natCast, hx]
  refine wpAny_bind (wpAny_rule (wpAny_bind (wpAny_setField ho hd (by simp) ?_)))
  show wpAny _ _ (newExc (.type "StopIteration") [] >>= _) _ _ _
  refine wpAny_bind ?_
  simp only [newExc, newTuple]
  refine wpAny_bind (wpAny_newObj_type ?_ (by size_fits))
  refine wpAny_bind (m := firstArgMember _ _) (wpAny_of_eq (a := Value.none) (by first | rfl | (simp only [firstArgMember]; rfl)) ?_)
  refine wpAny_newObj_type ?_ (by size_fits)
  simp only [raiseNew]
  refine wpAny_bind (wpAny_handled ?_)
  first | rw [show A.in1.handled = none from hh] | rw [hh]
  refine wpAny_bind (wpAny_pure (wpAny_throw ?_))
  exact hE _ _ (((Heap.SameBut.update ..).extBut.push _).push _) ⟨_, Heap.get?_push_size _ rfl, rfl⟩
theorem draws_tuple (hh : A.handled = none) (it l : Addr) (hne : l ≠ it) (items : Array Value) : Draws prog w A it [it, l] items.size (fun i v => items[i]? = some v) (fun i h => h.IsTupleIter it l i ∧ h.IsTuple l items) where
  live := fun _ _ st => let ⟨o, ho, _⟩ := st.1; ⟨o, ho⟩
  frame := fun _ _ _ st hk => ⟨st.1.at fun o e => hk it (by simp) o e, by obtain ⟨o, ho, r⟩ := st.2; exact ⟨o, hk l (by simp) o ho, r⟩⟩
  item := fun i s Q E hi st hQ => by
    refine next_tuple st.1 st.2 (x := items[i]) (by simp [hi]) fun h' hit' hs' => ?_
    exact hQ _ h' s.toks (by simp [hi]) ⟨hit', st.2.extBut hs'.extBut hne⟩ hs'
  done := fun s Q E st hE => next_tuple_end hh st.1 st.2 (by simp) hE
end
end Mine

namespace Mine
open PySem PySem.W PyProof.Rows PySem.Calls

theorem enumL_length : ∀ (k : Nat) (xs : List PyData), (enumL k xs).length = xs.length
  | _, [] => rfl
  | k, x :: xs => by rw [enumL, List.length_cons, List.length_cons, enumL_length (k + 1) xs]
theorem enumL_get : ∀ (k i : Nat) (xs : List PyData), (enumL k xs)[i]? = xs[i]?.map fun x => .tuple [.int ((k + i : Nat) : Int), x]
  | k, i, [] => by simp [enumL]
  | k, 0, x :: xs => by simp [enumL]
  | k, i + 1, x :: xs => by
    simp only [enumL, List.getElem?_cons_succ]
    rw [enumL_get (k + 1) i xs]
    congr 1
    funext y
    have : k + 1 + i = k + (i + 1) := by (first | lia | omega)
    rw [this]
section
variable {W : Wd} {A : Around} {cx : Cx} {κ : Anc} {s : Shared} {g : Heap} {σ σ' : Sg} {ρ : List Bnd}
theorem SndI.enum (hW : W.Ok) {elts : List Expr} {k : Nat} {tpos p pos : Pos} {a : Expr} {e : E} (hk : cx.kindOf "enumerate" = some .globalImplicit) (hg : nsIn W.G.K mainGlobals "enumerate" = some none) (h : SndE W cx a e) (hs : notStar a = true := by rfl) :
    SndI W cx (.Tuple elts k tpos) true (.Call (.Name "enumerate" p) [a] [] pos) (.enum e) := fun κ A s g σ env ρ xs σ' hh rm i eo he => by
  obtain ⟨hx, hl⟩ := oneL_eq he
  have hy : ∃ ys, ev W.glo W.R e ρ σ = some ([.d (.tuple ys)], σ') ∧ xs = enumL 0 ys := by
    rcases hx with hx | hx
    all_goals
      simp only [ev, Option.bind_eq_some_iff] at hx
      obtain ⟨⟨y, σ₁⟩, h1, h2⟩ := hx
      dsimp only at h2
      split at h2
      · simp only [Option.some.injEq, Prod.mk.injEq, List.cons.injEq, V.d.injEq, PyData.list.injEq, and_true] at h2
        first
        | (obtain ⟨rfl, rfl⟩ := h2
           exact ⟨_, oneD_eq h1, rfl⟩)
        | (exact absurd h2.1 (by simp))
      · cases h2
  obtain ⟨ys, h1', rfl⟩ := hy
  rw [enumL_length] at hl
  refine wpAny_Call_NameR (bui_run hW i eo hk hg (show bootBuiltins "enumerate" = some (.type "enumerate") from by kernel_rfl) (by decide +kernel) (by decide +kernel) ?_)
  refine PySem.Pv.callWith_type1 (spliced_more ?_ (star_of hs)) (star_of hs) plain_nil
  refine (h A s g σ env ρ _ σ' rm i eo h1').use fun v s₁ g₁ st ⟨y, e, q⟩ => spliced_none ?_
  cases e
  obtain ⟨l, vs, rfl, hL, r⟩ := Is.tup_at st.inv (v := v) q
  obtain ⟨o, ho, _⟩ := id hL
  have hlt := Heap.lt_size ho
  refine call_enumT hL fun h' hE hI hz keep => ?_
  have st₂ := Stp.keepAll (G := W.G) (tk := s₁.toks) st.inv keep
  refine wpAny_pyIter_enum hE ?_
  have ga : ∃ o, g₁.get? l = some o := by
    obtain ⟨a', o', xs', n', e', h1, _⟩ := Is.tuple_inv (v := .ref l) q
    cases e'; exact ⟨o', h1⟩
  have fresh : ∀ b, s₁.heap.objs.size ≤ b → (∃ o, h'.get? b = some o) → s.heap.get? b = none ∧ g₁.get? b = none ∧ ∃ o, h'.get? b = some o := fun b hb hlive => by
    have hn : s₁.heap.get? b = none := Heap.get?_none_of_le hb
    refine ⟨?_, ?_, hlive⟩
    · cases q : s.heap.get? b with
      | none => rfl
      | some o =>
        exfalso
        by_cases hc : b = W.G.c
        · obtain ⟨o', e⟩ := c_live st.inv
          rw [← hc, hn] at e; cases e
        · have := st.keep _ _ hc q; rw [hn] at this; cases this
    · cases q : g₁.get? b with
      | none => rfl
      | some o => have := st.inv.sub _ _ q; rw [hn] at this; cases this
  have hlen : vs.size = ys.length := by have := r.length; simpa using this
  have hne : s₁.heap.objs.size + 1 ≠ s₁.heap.objs.size := Nat.succ_ne_self _
  have KT := KTurns.ofWalksU (elts := elts) (k := k) (pos := tpos) (WalksT.toU (WalksT.enumerateD (prog := W.G.prog) (w := W.G.w) (A := A) (draws_tuple (prog := W.G.prog) (w := W.G.w) (A := A.in1) (by exact hh) s₁.heap.objs.size l (Nat.ne_of_lt hlt) vs) (s₁.heap.objs.size + 1) hne
    (by simp only [List.mem_cons, List.not_mem_nil, or_false, not_or]; exact ⟨hne, Nat.ne_of_gt (Nat.lt_succ_of_lt hlt)⟩) (by simp)))
  rw [hlen, ← enumL_length 0 ys] at KT
  have hL' : h'.IsTuple l vs := by obtain ⟨o, ho, x⟩ := hL; exact ⟨o, keep _ _ ho, x⟩
  refine ⟨g₁, _, rfl, st.trans st₂, ⟨_, _, _, _, _, KT, ⟨⟨_, hE⟩, hI, hL'⟩, ?_, ?_, ?_, fun s Q E hs hq => ?_, fun i h'' hs b hb => ?_⟩⟩
  · intro i v h'' hp
    obtain ⟨T, vals, rfl, ⟨t, x, hi, rfl⟩, hT⟩ := hp
    obtain ⟨hi', he⟩ := Array.getElem?_eq_some_iff.mp hi
    have hi2 : i < ys.length := hlen ▸ hi'
    obtain ⟨w, hw, q⟩ := r.get (k := i) (d := ys[i]) (by simp [hi2])
    rw [Array.getElem?_toList, hi] at hw
    cases hw
    refine ⟨.tuple [.int i, ys[i]], by rw [enumL_get]; simp [hi2], .inr ⟨rfl, T, _, _, rfl, rfl, hT, .cons .int (.cons q .nil)⟩⟩
  · intro b hb
    rcases List.mem_cons.mp hb with rfl | hb
    · exact fresh _ (Nat.le_succ _) ⟨_, hE⟩
    · rw [List.mem_singleton.mp hb]
      obtain ⟨o, e, _⟩ := hI
      exact fresh _ (Nat.le_refl _) ⟨o, e⟩
  · intro b hb
    simp only [List.mem_cons, List.not_mem_nil, or_false] at hb
    rcases hb with rfl | rfl | rfl
    · exact .inl (by simp)
    · exact .inl (by simp)
    · exact .inr ga
  · obtain ⟨⟨old, e⟩, _⟩ := hs
    exact wpAny_pyIter_enum e hq
  · obtain ⟨⟨old, e⟩, ⟨o, e2, _⟩, _⟩ := hs
    rcases List.mem_cons.mp hb with rfl | hb
    · exact ⟨_, e⟩
    · rw [List.mem_singleton.mp hb]; exact ⟨o, e2⟩
/-! the join of a list of texts *)-/
theorem SndE.join {sep : Str} {kk : Nat} {kp apos pos : Pos} {a : Expr} {e : E} (hz : sep.cps = #[]) (h : SndE W cx a e) (hn : notStar a = true := by rfl)
    (hp : ∀ env, ∃ pl, eval (.Call (.Attribute (.Constant (.str sep) kk kp) "join" apos) [a] [] pos) env = (do
      let ov ← eval (.Constant (.str sep) kk kp) env
      standAt apos.atName
      let (f, first) ← holding [ov] (getMethod ov "join" pl)
      callWith pos f first (backTo pos (starEach [a] env)) []) := by intro _; exact ⟨_, rfl⟩) :
    SndE W cx (.Call (.Attribute (.Constant (.str sep) kk kp) "join" apos) [a] [] pos) (.bi .join e) := fun _ A s g σ env ρ xs σ' rm i eo he => by
  simp only [ev, Option.bind_eq_some_iff] at he
  obtain ⟨⟨x₁, σ₁⟩, h1, d, h2, he⟩ := he
  simp only [Option.some.injEq, Prod.mk.injEq] at he
  obtain ⟨rfl, rfl⟩ := he
  obtain ⟨pl, hp⟩ := hp env
  refine MethodCall_ (pl := pl) (wpAny_Constant_str ?_) hp
  with_reducible refine GM.join ?_
  refine PyProof.Rows.callWith_method1 (spliced_more ?_ (star_of hn)) (star_of hn) plain_nil
  have st₀ := Stp.tok i (s.toks + 1)
  refine (h.oneD rm st₀.inv (eo.step st₀) h1).use fun u s₁ g₁ st q => spliced_none ?_
  exact Runs.after (st₀.trans st) ((join_run (A := A) st.inv hz q h2).mono fun r g' q => ⟨_, rfl, q⟩)
end
end Mine

namespace Mine
open PySem PySem.W PyProof.Rows PySem.Calls

theorem bindL_keep (k : Str → Option NameKind) (x : Str) : ∀ (l : List (Str × Value)) (m : Str → Option Value), (∀ p ∈ l, p.1 ≠ x) → bindL k l m x = m x
  | [], m, _ => rfl
  | (n, v) :: r, m, h => by
    unfold bindL
    rw [bindL_keep k x r _ fun p hp => h p (List.mem_cons_of_mem _ hp)]
    split
    · show (if x = n then some v else m x) = m x
      rw [if_neg fun e => h (n, v) List.mem_cons_self e.symm]
    · rfl
theorem bindL_get (k : Str → Option NameKind) (x : Str) (hk : k x = some .local) : ∀ (ps : List Str) (vs : List Value) (m : Str → Option Value) (i : Nat) (v : Value), ps.Nodup → ps[i]? = some x → vs[i]? = some v → bindL k (ps.zip vs) m x = some v
  | [], _, _, i, _, _, h, _ => by simp at h
  | _ :: _, [], _, i, _, _, _, h => by simp at h
  | p :: ps, w :: vs, m, 0, v, hn, h1, h2 => by
    simp only [List.getElem?_cons_zero, Option.some.injEq] at h1 h2
    subst h1 h2
    rw [List.zip_cons_cons]
    unfold bindL
    rw [bindL_keep k p _ _ fun q hq e => (List.nodup_cons.mp hn).1 (e ▸ (List.of_mem_zip hq).1), if_pos hk]
    exact if_pos rfl
  | p :: ps, w :: vs, m, i + 1, v, hn, h1, h2 => by
    rw [List.zip_cons_cons]
    unfold bindL
    exact bindL_get k x hk ps vs _ i v (List.nodup_cons.mp hn).2 (by simpa using h1) (by simpa using h2)
theorem bindC_keep (k : Str → Option NameKind) (x : Str) : ∀ (l : List (Str × Value)) (m : Str → Option Value), (∀ p ∈ l, p.1 ≠ x) → bindC k l m x = m x
  | [], m, _ => rfl
  | (n, v) :: r, m, h => by
    unfold bindC
    rw [bindC_keep k x r _ fun p hp => h p (List.mem_cons_of_mem _ hp)]
    split
    · rfl
    · show (if x = n then some v else m x) = m x
      rw [if_neg fun e => h (n, v) List.mem_cons_self e.symm]
theorem bindC_get (k : Str → Option NameKind) (x : Str) (hk : k x = some .cell) : ∀ (ps : List Str) (vs : List Value) (m : Str → Option Value) (i : Nat) (v : Value), ps.Nodup → ps[i]? = some x → vs[i]? = some v → bindC k (ps.zip vs) m x = some v
  | [], _, _, i, _, _, h, _ => by simp at h
  | _ :: _, [], _, i, _, _, _, h => by simp at h
  | p :: ps, w :: vs, m, 0, v, hn, h1, h2 => by
    simp only [List.getElem?_cons_zero, Option.some.injEq] at h1 h2
    subst h1 h2
    rw [List.zip_cons_cons]
    unfold bindC
    rw [bindC_keep k p _ _ fun q hq e => (List.nodup_cons.mp hn).1 (e ▸ (List.of_mem_zip hq).1), if_neg (by rw [hk]; simp)]
    exact if_pos rfl
  | p :: ps, w :: vs, m, i + 1, v, hn, h1, h2 => by
    rw [List.zip_cons_cons]
    unfold bindC
    exact bindC_get k x hk ps vs _ i v (List.nodup_cons.mp hn).2 (by simpa using h1) (by simpa using h2)
theorem cells_acc (x : Str) : ∀ (names : List (Str × NameKind)) (n : Nat) (acc : List (Str × Addr)), (∃ a, acc.lookup x = some a) → ∃ a, (cellsFrom n names acc).lookup x = some a
  | [], _, _, h => h
  | (y, k) :: r, n, acc, h => by
    unfold cellsFrom
    split
    · refine cells_acc x r _ _ ?_
      rw [List.lookup_cons]
      cases x == y
      · exact h
      · exact ⟨_, rfl⟩
    · exact cells_acc x r _ _ h
theorem cells_has (x : Str) : ∀ (names : List (Str × NameKind)) (n : Nat) (acc : List (Str × Addr)), names.lookup x = some .cell → ∃ a, (cellsFrom n names acc).lookup x = some a
  | [], _, _, h => by simp at h
  | (y, k) :: r, n, acc, h => by
    rw [List.lookup_cons] at h
    unfold cellsFrom
    by_cases e : x == y
    · rw [e] at h
      cases h
      rw [if_pos (show (NameKind.cell == NameKind.cell) = true from rfl)]
      exact cells_acc x r _ _ ⟨n, by rw [List.lookup_cons, e]⟩
    · have e : (x == y) = false := by simpa using e
      rw [e] at h
      split <;> exact cells_has x r _ _ h

/-- a def of the text stands for a small program *)-/
structure FnIs (G : Cfg) (a : Addr) (fd : FuncData) (body : List Stmt) (cx : Cx) (ps : List Str) (m : FnM) : Prop where
  lk : ∃ o, G.K.lookup a = some o ∧ o.data = .func fd
  code : codeIn G.K fd.code fd.qualname = true
  stmts : fd.body = .stmts body
  bind : ∀ vals : List Value, vals.length = m.nargs → bindArgs fd ⟨vals, []⟩ = pure (ps.zip vals)
  clo : fd.closure = []
  sc : fd.scope = cx.sc
  kind : cx.sc.kind = .function
  co : fd.scope.isCoroutine = false
  gen : fd.scope.isGenerator = false
  glo : fd.globals = mainGlobals
  bui : fd.builtins = builtinsNs
  len : ps.length = m.nargs
  nodup : ps.Nodup
  kinds : ∀ p ∈ ps, cx.kindOf p = some .local ∨ cx.kindOf p = some .cell
  slots : ∀ x i, cx.Γ.lookup x = some i → i < m.nargs → ps[i]? = some x
  nofree : ∀ x, cx.kindOf x ≠ some .free

section
variable {W : Wd} {A : Around} {cx : Cx} {s : Shared} {g : Heap} {σ σ' : Sg}
theorem AllV.get {G : Cfg} {g : Heap} : ∀ {vs : List Value} {xs : List V} {i : Nat} {x : V}, AllV G g vs xs → xs[i]? = some x → ∃ v, vs[i]? = some v ∧ IsV G g v x
  | [], [], i, x, _, h => by simp at h
  | v :: vs, y :: ys, 0, x, h, e => by
    simp only [List.getElem?_cons_zero, Option.some.injEq] at e
    subst e
    exact ⟨v, rfl, h.1⟩
  | v :: vs, y :: ys, i + 1, x, h, e => by
    obtain ⟨w, h1, h2⟩ := AllV.get h.2 (by simpa using e)
    exact ⟨w, by simpa using h1, h2⟩
  | [], _ :: _, _, _, h, _ => h.elim
  | _ :: _, [], _, _, h, _ => h.elim
theorem rho_get {vs : List V} {n i : Nat} {b : Bnd} (h : (vs.map Bnd.v ++ List.replicate n Bnd.un)[i]? = some b) (hb : b ≠ .un) : ∃ x, vs[i]? = some x ∧ b = .v x ∧ i < vs.length := by
  rw [List.getElem?_append] at h
  split at h
  · rename_i hi
    rw [List.length_map] at hi
    rw [List.getElem?_map, Option.map_eq_some_iff] at h
    obtain ⟨x, e, rfl⟩ := h
    exact ⟨x, e, rfl, hi⟩
  · rw [List.getElem?_replicate] at h
    split at h
    · cases h; exact absurd rfl hb
    · cases h
theorem call_fn {W' : Wd} (hG : W'.G = W.G) (hW : W.Ok) (hn : W'.n = W.n + 1) {a : Addr} {fd : FuncData} {body : List Stmt} {ps : List Str} {m : FnM} (F : FnIs W.G a fd body cx ps m) (hS : SndS W cx body m.body) {xs : List V} {v : V} (hl : xs.length = m.nargs)
    (he : evS W.glo W.R m.body (xs.map .v ++ List.replicate m.nslots .un) σ = some (.ret v σ')) {vs : List Value} (rm : Room A (W.n + 1)) (i : Inv W.G g σ s) (hv : AllV W.G g vs xs) :
    Runs W.G A s g σ' (call (.ref a) vs) (fun r g' => IsV W.G g' r v) := by
  obtain ⟨o, hlk, hdata⟩ := F.lk
  have hlen := hv.length
  have X : W.G.K.In s.heap := hW.glb.kin.keeps i.keep₀
  obtain ⟨r1, r2, r3⟩ := rm
  have kq : ∀ x, (callEnvC fd s.heap.objs.size a).kindOf x = cx.kindOf x := fun x => by
    show fd.scope.names.lookup x = cx.sc.names.lookup x
    rw [F.sc]
  refine wpAny_call (codeAny_call_cells (by (first | lia | omega)) (X _ _ hlk) hdata (hW.glb.lim.keeps i.keep₀) (codeRec_of X F.code) F.stmts (F.bind vs (hlen.trans hl)) F.clo ?_ (fun s₁ hc => ?_) F.co F.gen (by rw [F.sc]; exact F.kind))
  · intro p hp
    have := F.kinds p.1 (List.of_mem_zip hp).1
    rw [F.sc]
    rcases this with h | h
    · exact .inl h
    · refine .inr ⟨h, ?_⟩
      obtain ⟨a, e⟩ := cells_has p.1 cx.sc.names (s.heap.objs.size + 1) [] h
      rw [e]; rfl
  · obtain ⟨h', tk, rfl, hk⟩ := hc.done
    have st := Stp.keepAll (G := W.G) (tk := tk) i hk
    have dead : ∀ b, s.heap.objs.size ≤ b → b ≠ W.G.c ∧ g.get? b = none := fun b hb => by
      have hn : s.heap.get? b = none := Heap.get?_none_of_le hb
      refine ⟨fun z => ?_, ?_⟩
      · obtain ⟨o, e⟩ := c_live i
        rw [← z, hn] at e; cases e
      · cases e : g.get? b with
        | none => rfl
        | some o => rw [i.sub _ _ e] at hn; cases hn
    have cellIs : ∀ x, cx.kindOf x = some .cell → ∃ c, (callEnvC fd s.heap.objs.size a).cells.lookup x = some c := fun x hx => by
      obtain ⟨c, e⟩ := cells_has x cx.sc.names (s.heap.objs.size + 1) [] hx
      exact ⟨c, by show (cellsFrom _ fd.scope.names []).lookup x = _; rw [F.sc]; exact e⟩
    have abv : ∀ x c, (callEnvC fd s.heap.objs.size a).cells.lookup x = some c → s.heap.objs.size < c := fun x c e => hc.above x c (mem_of_lookup e)
    have eo : EnvOk W.G cx ⟨s.heap.objs.size, fun _ => 0⟩ g h' (callEnvC fd s.heap.objs.size a) (xs.map .v ++ List.replicate m.nslots .un) := by
      refine ⟨F.sc, F.kind, F.glo, F.bui, Nat.le_refl _, (dead _ (Nat.le_refl _)).1, (dead _ (Nat.le_refl _)).2, ⟨_, hc.toInCall.ns, fun x j b h1 h2 h3 h4 => ?_⟩, fun x j b h1 h2 h3 h4 => ?_, fun x hx => ?_, fun x c e => ?_, fun x c _ e => Nat.le_of_lt (abv x c e), fun j k b b' h1 h2 h3 h4 h5 => ?_, fun x y c h1 h2 => ?_⟩
      · obtain ⟨y, hy, rfl, hlt⟩ := rho_get h2 h3
        obtain ⟨v, e, q⟩ := hv.get hy
        exact ⟨v, bindL_get _ x ((kq x).trans h4) ps vs _ j v F.nodup (F.slots x j h1 (hl ▸ hlt)) e, q⟩
      · obtain ⟨y, hy, rfl, hlt⟩ := rho_get h2 h3
        obtain ⟨v, e, q⟩ := hv.get hy
        have h4 : cx.kindOf x = some .cell := h4.elim id fun z => absurd z (F.nofree x)
        obtain ⟨c, ec⟩ := cellIs x h4
        have := hc.cell x c ec
        rw [bindC_get _ x ((kq x).trans h4) ps vs _ j v F.nodup (F.slots x j h1 (hl ▸ hlt)) e] at this
        exact ⟨c, v, ec, this, q⟩
      · exact cellIs x (hx.elim id fun z => absurd z (F.nofree x))
      · obtain ⟨z1, z2⟩ := dead c (Nat.le_of_lt (abv x c e))
        exact ⟨z1, z2, _, hc.cell x c e⟩
      · have e1 := (rho_get h1 (by rintro rfl; cases h3)).choose_spec.2.1
        rw [e1] at h3; cases h3
      · exact name_of_addr hc.apart (mem_of_lookup h1) (mem_of_lookup h2)
    have rm' : Room (A.deeper (callEnvC fd s.heap.objs.size a)) W.n := ⟨r1, by show A.depth + 1 + W.n + 5 < _; (first | lia | omega), by show A.units + 3 + 16 * W.n + 400 < _; (first | lia | omega)⟩
    refine wpAny_mono (hS (fr := fun _ => none) (A.deeper _) s g { s with heap := h', toks := tk } g σ _ _ _ rm' st eo (fun _ _ e => by cases e) (Nat.le_refl _) he) (fun fl s' q => ?_) fun _ _ f => f.elim
    obtain ⟨g', r, rfl, st', q⟩ := q
    exact ⟨g', st', q⟩
/-- all the calls *)-/
theorem all_calls {G : Cfg} {adr : Nat → Addr} {glo : Nat → Option PyData} {fn : Nat → Option FnM} (hG : Glb G)
    (hf : ∀ n f m, fn f = some m → Wd.Ok ⟨G, adr, glo, run glo fn n, n⟩ → ∃ fd body cx ps, FnIs G (adr f) fd body cx ps m ∧ SndS ⟨G, adr, glo, run glo fn n, n⟩ cx body m.body) : ∀ n, Wd.Ok ⟨G, adr, glo, run glo fn n, n⟩
  | 0 => ⟨hG, fun f xs σ v σ' h => by simp [run] at h⟩
  | n + 1 => by
    have ih := all_calls hG hf n
    refine ⟨hG, fun f xs σ v σ' h A s g vs rm i hv => ?_⟩
    simp only [run, Option.bind_eq_some_iff] at h
    obtain ⟨m, hm, h⟩ := h
    split at h
    · rename_i hl
      split at h
      · rename_i v' σ'' e
        simp only [Option.some.injEq, Prod.mk.injEq] at h
        obtain ⟨rfl, rfl⟩ := h
        obtain ⟨fd, body, cx, ps, F, hS⟩ := hf n f m hm ih
        exact call_fn (W := ⟨G, adr, glo, run glo fn n, n⟩) (W' := ⟨G, adr, glo, run glo fn (n + 1), n + 1⟩) rfl ih rfl F hS hl e rm i hv
      · cases h
    · cases h
end
end Mine

namespace Mine
open PySem PySem.W PyProof.Rows PySem.Calls

noncomputable def gam (T : List (Str × Nat)) (sc : Scope) : List (Str × Nat) := sc.names.filterMap fun p => (T.lookup p.1).map fun i => (p.1, i)
noncomputable def mkCx (T : List (Str × Nat)) (sc : Scope) : Cx := ⟨sc, gam T sc⟩
noncomputable def slotB (cx : Cx) (x : Str) (i : Nat) : Bool := decide (cx.Γ.lookup x = some i) && cx.Γ.all fun p => decide (p.2 ≠ i) || decide (p.1 = x)
theorem slotB_of {cx : Cx} {x : Str} {i : Nat} (h : slotB cx x i = true) : cx.Γ.lookup x = some i ∧ slotInj cx x i := by
  unfold slotB at h
  simp only [Bool.and_eq_true, decide_eq_true_eq, List.all_eq_true, Bool.or_eq_true] at h
  refine ⟨h.1, fun y hy => ?_⟩
  rcases h.2 _ (mem_of_lookup hy) with q | q
  · exact absurd rfl q
  · exact q
noncomputable def kB (cl : Bool) (cx : Cx) (x : Str) : Bool := decide (cx.kindOf x = some .local) || (cl && decide (cx.kindOf x = some .cell))
theorem kB_of {cl : Bool} {cx : Cx} {x : Str} (h : kB cl cx x = true) : cx.kindOf x = some .local ∨ (cl = true ∧ cx.kindOf x = some .cell) := by
  unfold kB at h
  simpa using h
noncomputable def asgB (cl : Bool) (cx : Cx) (x : Str) (i : Nat) : Bool := kB cl cx x && slotB cx x i
theorem asgB_of {cx : Cx} {x : Str} {i : Nat} (h : asgB true cx x i = true) : asgOk cx x i := by
  unfold asgB at h
  rw [Bool.and_eq_true] at h
  exact ⟨kB_of h.1, slotB_of h.2⟩
theorem locB_of {cx : Cx} {x : Str} {i : Nat} (h : asgB false cx x i = true) : cx.kindOf x = some .local ∧ cx.Γ.lookup x = some i ∧ slotInj cx x i := by
  unfold asgB at h
  rw [Bool.and_eq_true] at h
  have := kB_of h.1
  exact ⟨this.elim id fun z => absurd z.1 (by simp), slotB_of h.2⟩
theorem tgt_one {cl : Bool} {cx : Cx} {x : Str} {p : Pos} {i : Nat} (h : asgB cl cx x i = true) : TgtOk cl cx (.Name x p) (.one i) := by
  unfold asgB at h
  rw [Bool.and_eq_true] at h
  exact .one (kB_of h.1) (slotB_of h.2).1 (slotB_of h.2).2
theorem tgt_two {cl : Bool} {cx : Cx} {x y : Str} {p q r : Pos} {k i j : Nat} (h : asgB cl cx x i = true) (h' : asgB cl cx y j = true) : TgtOk cl cx (.Tuple [.Name x p, .Name y q] k r) (.two i j) := by
  unfold asgB at h h'
  rw [Bool.and_eq_true] at h h'
  exact .two (kB_of h.1) (slotB_of h.2).1 (slotB_of h.2).2 (kB_of h'.1) (slotB_of h'.2).1 (slotB_of h'.2).2
noncomputable def allVarB (cx : Cx) : Bool := cx.Γ.all fun p => cx.var p.1
theorem allVarB_of {cx : Cx} (h : allVarB cx = true) : ∀ x i, cx.Γ.lookup x = some i → cx.var x = true := fun x i e => List.all_eq_true.mp h _ (mem_of_lookup e)

noncomputable def noFd : FuncData := { name := "", qualname := "", params := { posonlyargs := [], args := [], vararg := none, kwonlyargs := [], kw_defaults := [], kwarg := none, defaults := [] }, body := .stmts [], scope := { kind := .function, names := [], isGenerator := false, isCoroutine := false }, globals := 0, builtins := 0, closure := [], defaults := .none, kwdefaults := .none, pyModule := .none, code := .none }
noncomputable def fdOf (K : Frag) (a : Addr) : FuncData := match K.lookup a with
  | some o => match o.data with
    | .func fd => fd
    | _ => noFd
  | none => noFd
noncomputable def bodyOf (K : Frag) (a : Addr) : List Stmt := match (fdOf K a).body with
  | .stmts b => b
  | _ => []
noncomputable def scOf (K : Frag) (a : Addr) : Scope := (fdOf K a).scope
noncomputable def isFn (K : Frag) (a : Addr) : Bool := match K.lookup a with
  | some o => match o.data with
    | .func fd => match fd.body with
      | .stmts _ => true
      | _ => false
    | _ => false
  | none => false
noncomputable def fnB (K : Frag) (a : Addr) (T : List (Str × Nat)) (ps : List Str) (m : FnM) : Bool :=
  isFn K a && codeIn K (fdOf K a).code (fdOf K a).qualname && (fdOf K a).closure.isEmpty && decide ((scOf K a).kind = .function) && !(scOf K a).isCoroutine && !(scOf K a).isGenerator && decide ((fdOf K a).globals = mainGlobals) && decide ((fdOf K a).builtins = builtinsNs) &&
  decide (ps.length = m.nargs) && decide ps.Nodup && (ps.all fun p => decide ((mkCx T (scOf K a)).kindOf p = some .local) || decide ((mkCx T (scOf K a)).kindOf p = some .cell)) &&
  ((mkCx T (scOf K a)).Γ.all fun p => decide (m.nargs ≤ p.2) || decide (ps[p.2]? = some p.1)) && ((scOf K a).names.all fun p => decide (p.2 ≠ .free))
theorem FnIs.of {G : Cfg} {a : Addr} {T : List (Str × Nat)} {ps : List Str} {m : FnM} (h : fnB G.K a T ps m = true) (hb : ∀ vals : List Value, vals.length = m.nargs → bindArgs (fdOf G.K a) ⟨vals, []⟩ = pure (ps.zip vals)) :
    FnIs G a (fdOf G.K a) (bodyOf G.K a) (mkCx T (scOf G.K a)) ps m := by
  unfold fnB at h
  simp only [Bool.and_eq_true, decide_eq_true_eq, List.all_eq_true, Bool.or_eq_true, Bool.not_eq_true'] at h
  obtain ⟨⟨⟨⟨⟨⟨⟨⟨⟨⟨⟨⟨h1, h2⟩, h3⟩, h4⟩, h5⟩, h6⟩, h7⟩, h8⟩, h9⟩, h10⟩, h11⟩, h12⟩, h13⟩ := h
  have hx : ∃ o, G.K.lookup a = some o ∧ o.data = .func (fdOf G.K a) ∧ (fdOf G.K a).body = .stmts (bodyOf G.K a) := by
    unfold isFn at h1
    unfold bodyOf
    split at h1
    · rename_i o ho
      split at h1
      · rename_i fd hd
        have e : fdOf G.K a = fd := by unfold fdOf; rw [ho]; simp only [hd]
        split at h1
        · rename_i b hbb
          exact ⟨o, ho, by rw [e]; exact hd, by rw [e, hbb]⟩
        · cases h1
      · cases h1
    · cases h1
  obtain ⟨o, k1, k2, k3⟩ := hx
  refine ⟨⟨o, k1, k2⟩, h2, k3, hb, by simpa using h3, rfl, h4, h5, h6, h7, h8, h9, h10, h11, fun x i e hi => ?_, fun x e => ?_⟩
  · rcases h12 _ (mem_of_lookup e) with q | q
    · exact absurd hi (Nat.not_lt.mpr q)
    · exact q
  · exact h13 _ (mem_of_lookup e) rfl

theorem vals1 {P : List Value → Prop} (h : ∀ a, P [a]) : ∀ l : List Value, l.length = 1 → P l
  | [a], _ => h a
theorem vals2 {P : List Value → Prop} (h : ∀ a b, P [a, b]) : ∀ l : List Value, l.length = 2 → P l
  | [a, b], _ => h a b
theorem vals3 {P : List Value → Prop} (h : ∀ a b c, P [a, b, c]) : ∀ l : List Value, l.length = 3 → P l
  | [a, b, c], _ => h a b c
/-! the rules, with looks *)-/
section
variable {W : Wd} {cx : Cx} {T : List (Str × Nat)} {scope sc : Scope} {target target2 elt iter test i2 : Expr} {t t2 : Tgt} {e it it2 c : E} {pos : Pos}
theorem comp0 (hI : SndI W (mkCx T sc) target (tgtOwn t) iter it) (ck : compOkB (mkCx T sc) scope (gam T scope) (slotsOf t) = true) (ht : TgtOk false (mkCx T (relabelS scope sc)) target t) (he : SndE W (mkCx T (relabelS scope sc)) elt e) (hg : gam T (relabelS scope sc) = gam T scope := by kernel_rfl) (hfo : foldedOk iter := by intro _ _; rfl) :
    CompRun W (mkCx T sc) scope (.ListComp elt [⟨target, iter, [], 0⟩] scope pos) (.comp e t it (.lit (.bool true))) := by
  have hx : mkCx T (relabelS scope sc) = (mkCx T sc).comp scope (gam T scope) := by unfold mkCx; rw [hg]; rfl
  rw [hx] at ht he
  exact CompRun.zero hI (CompOk.of ck) hfo ht he
theorem comp1 (hI : SndI W (mkCx T sc) target (tgtOwn t) iter it) (ck : compOkB (mkCx T sc) scope (gam T scope) (slotsOf t) = true) (ht : TgtOk false (mkCx T (relabelS scope sc)) target t) (he : SndE W (mkCx T (relabelS scope sc)) elt e) (hc : SndB W (mkCx T (relabelS scope sc)) test c) (hg : gam T (relabelS scope sc) = gam T scope := by kernel_rfl) (hfo : foldedOk iter := by intro _ _; rfl) :
    CompRun W (mkCx T sc) scope (.ListComp elt [⟨target, iter, [test], 0⟩] scope pos) (.comp e t it c) := by
  have hx : mkCx T (relabelS scope sc) = (mkCx T sc).comp scope (gam T scope) := by unfold mkCx; rw [hg]; rfl
  rw [hx] at ht he hc
  exact CompRun.one hI (CompOk.of ck) hfo ht he hc
theorem comp2 (hI : SndI W (mkCx T sc) target (tgtOwn t) iter it) (ck : compOkB (mkCx T sc) scope (gam T scope) (slotsOf t ++ slotsOf t2) = true) (ht : TgtOk false (mkCx T (relabelS scope sc)) target t) (he : SndE W (mkCx T (relabelS scope sc)) elt e)
    (hI2 : SndI W (mkCx T (relabelS scope sc)) target2 (tgtOwn t2) i2 it2) (ht2 : TgtOk false (mkCx T (relabelS scope sc)) target2 t2) (hg : gam T (relabelS scope sc) = gam T scope := by kernel_rfl) (hfo : foldedOk iter := by intro _ _; rfl) (hfo2 : foldedOk i2 := by intro _ _; rfl) :
    CompRun W (mkCx T sc) scope (.ListComp elt [⟨target, iter, [], 0⟩, ⟨target2, i2, [], 0⟩] scope pos) (.comp2 e t it t2 it2) := by
  have hx : mkCx T (relabelS scope sc) = (mkCx T sc).comp scope (gam T scope) := by unfold mkCx; rw [hg]; rfl
  rw [hx] at ht he hI2 ht2
  exact CompRun.two hI (CompOk.of ck) hfo ht he hI2 hfo2 ht2
end
end Mine

namespace Mine
open PySem PySem.W PyProof.Rows PySem.Calls
section
variable {W : Wd} {A : Around} {cx : Cx} {κ : Anc} {env : Env} {ρ : List Bnd} {s : Shared} {g : Heap} {σ σ' : Sg}
/-- the statement that makes the shared dict, and the rest *)-/
theorem feed_stmt {x k1 k2 : Str} {i : Nat} {p pos dpos q1 q2 q3 : Pos} {c1 c2 c3 : Nat} {z : Int} {comp : Expr} {e : E} {rest : List Stmt} {S : Mine.S} {d : PyData} (hc : W.G.c = s.heap.objs.size)
    (inv : Inv W.G g [] { s with heap := s.heap.push { cls := .type "dict", data := .dict #[] } }) (eo : EnvOk W.G cx κ g (s.heap.push { cls := .type "dict", data := .dict #[] }) env ρ) (rm : Room A W.n)
    (hL : g.objs.size ≤ κ.L) (ha : asgOk cx x i) (he : SndE W cx comp e) (hev : ev W.glo W.R e ρ [] = some ([.d d], [])) (k : SndS W cx rest S) (hk : k1 ≠ k2) (hrun : evS W.glo W.R S (ρ.set i (.v .feed)) [(k1, d), (k2, .int z)] = some (.ret (.d (.bool true)) σ')) :
    wpAny (model W.G.prog W.G.w) A (execs (.Assign [.Name x p] (.Dict [some (.Constant (.str k1) c1 q1), some (.Constant (.str k2) c2 q2)] [comp, .Constant (.int z) c3 q3] dpos) pos :: rest) env)
      (fun fl s' => fl = .ret (.bool true) ∧ (∀ b o, g.get? b = some o → s'.heap.get? b = some o) ∧ s'.os = s.os ∧ s'.gens = s.gens) (fun _ _ => False) s := by
  obtain ⟨a1, a2, a3⟩ := ha
  refine wpAny_execs_cons (wpAny_Assign_stores (wpAny_Dict_walk (knd := strKind W.G.prog W.G.w) rfl rfl (by simp) (by simp) (pairTrees_cons_walk (wpAny_Constant_str ?_))) rfl rfl)
  refine (he A _ _ _ _ _ _ _ rm (inv.toks _) eo hev).use fun v s₂ g₂ st ⟨y, ey, q⟩ => ?_
  cases ey
  have eo₂ := eo.step st
  refine pairTrees_cons_walk (wpAny_Constant_str (wpAny_Constant_int (pairTrees_nil_walk ?_)))
  obtain ⟨kvs, hd, ke, hi, hl⟩ := st.inv.shr
  have hnil : kvs = [] := List.map_eq_nil_iff.mp ke
  subst hnil
  rw [hc] at hd
  refine ⟨[(k1, v), (k2, .int z _)], ⟨strKind_is _ _ _ _, rfl, strKind_is _ _ _ _, rfl, trivial⟩, hd, fun h' hd' hs => ?_⟩
  have hm : merged [] [(k1, v), (k2, Value.int z (s₂.toks + 1))] = [(k1, v), (k2, .int z (s₂.toks + 1))] := by
    unfold merged stored
    simp [hk]
  rw [hm, ← hc] at hd'
  rw [← hc] at hs
  obtain ⟨h2, t2, rfl⟩ := st.same
  -- the new state
  have invN : Inv W.G g₂ [(k1, d), (k2, .int z)] { s with heap := h', toks := t2 + 1 + 1 + 2 } :=
    ⟨st.inv.base, fun b o e => (hs.2 b fun w => by rw [w, st.inv.gc] at e; cases e).trans (st.inv.sub b o e), st.inv.gc, _, hd', rfl, .cons q (.cons .int .nil), by simp⟩
  have stN : Stp W.G { s with heap := g } g [(k1, d), (k2, .int z)] { s with heap := h', toks := t2 + 1 + 1 + 2 } g₂ := by
    refine ⟨⟨h', _, rfl⟩, fun b o hb e => (hs.2 b hb).trans (st.keep b o hb (inv.sub b o e)), st.grow, fun b o e => ?_, invN⟩
    rcases st.fresh b o e with z | z
    · exact .inl z
    · right
      show g.get? b = none
      cases r : g.get? b with
      | none => rfl
      | some o' =>
        have := inv.sub b o' r
        rw [z] at this; cases this
  have stM : Stp W.G { s with heap := h2, toks := t2 + 1 + 1 + 2 } g₂ [(k1, d), (k2, .int z)] { s with heap := h', toks := t2 + 1 + 1 + 2 } g₂ :=
    ⟨⟨h', _, rfl⟩, fun b o hb e => (hs.2 b hb).trans e, Sub.rfl, fun b o e => .inl e, invN⟩
  have eoN := EnvOk.step (s := { s with heap := h2, toks := t2 + 1 + 1 + 2 }) stM eo₂
  show wpAny _ _ (assign (.Name x p) env _) _ _ _
  refine assign_one (cl := true) (b := .v .feed) (s := { s with heap := h', toks := t2 + 1 + 1 + 2 }) eoN a1 a2 a3 ownOk_v (fun _ _ => by show _ = _; rw [hc]) fun s' m eo' => ?_
  have sf : ∀ b, Wr true cx env b → ({ s with heap := g } : Shared).heap.get? b = none ∧ g₂.get? b = none ∧ b ≠ W.G.c := fun b hb => by
    have w := Wr.safe (s := { s with heap := h', toks := t2 + 1 + 1 + 2 }) eoN b hb
    exact ⟨Heap.get?_none_of_le (Nat.le_trans hL (Wr.anc eoN hb)), w.1, w.2⟩
  refine wpAny_mono (k (fr := fun _ => none) A _ g s' g₂ _ env _ _ rm (stN.moved m sf) eo' (fun _ _ e => by cases e) hL hrun) (fun fl s'' w => ?_) fun _ _ f => f
  obtain ⟨g', r, rfl, st', qr⟩ := w
  obtain rfl := Is.bool_inv qr
  obtain ⟨h3, t3, rfl⟩ := st'.same
  exact ⟨rfl, fun b o e => st'.keep b o (fun w => by rw [w, inv.gc] at e; cases e) e, rfl, rfl⟩
end
end Mine

namespace Mine
open PySem

inductive Tm where
  | node (o : Str) (ks : List Tm)
namespace Tm
noncomputable def op : Tm → Str | .node o _ => o
noncomputable def ks : Tm → List Tm | .node _ l => l
end Tm
open Tm
section
variable {P : Tm → Prop} (h : ∀ o l, (∀ k ∈ l, P k) → P (.node o l))
include h
mutual
theorem tmInd : ∀ t, P t
  | .node o l => h o l (tmIndL l)
theorem tmIndL : ∀ l : List Tm, ∀ k ∈ l, P k
  | [], _, e => nomatch e
  | y :: l, k, e => by
    rcases List.mem_cons.mp e with q | q
    · exact q ▸ tmInd y
    · exact tmIndL l k q
end
end
mutual
noncomputable def sz : Tm → Nat
  | .node _ l => szs l + 1
noncomputable def szs : List Tm → Nat
  | [] => 0
  | t :: l => sz t + szs l
end
mutual
noncomputable def lv : Tm → Nat
  | .node _ l => match l with
    | [] => 1
    | t :: r => lv t + lvs r
noncomputable def lvs : List Tm → Nat
  | [] => 0
  | t :: l => lv t + lvs l
end
mutual
noncomputable def dp : Tm → Nat
  | .node _ l => dps l + 1
noncomputable def dps : List Tm → Nat
  | [] => 0
  | t :: l => max (dp t) (dps l)
end
mutual
noncomputable def toD : Tm → PyData
  | .node o l => .tuple (.str o :: toDs l)
noncomputable def toDs : List Tm → List PyData
  | [] => []
  | t :: l => toD t :: toDs l
end
theorem toDs_eq : ∀ l, toDs l = l.map toD
  | [] => rfl
  | t :: l => by rw [toDs, toDs_eq l]; rfl
mutual
noncomputable def pre : Tm → List Tm
  | .node o l => .node o l :: pres l
noncomputable def pres : List Tm → List Tm
  | [] => []
  | t :: l => pre t ++ pres l
end
theorem pres_eq : ∀ l, pres l = l.flatMap pre
  | [] => rfl
  | t :: l => by rw [pres, pres_eq l]; rfl
theorem szs_mem : ∀ {l : List Tm} {k : Tm}, k ∈ l → sz k ≤ szs l
  | t :: l, k, h => by
    rw [szs]
    rcases List.mem_cons.mp h with rfl | h
    · (first | lia | omega)
    · have := szs_mem h; (first | lia | omega)
theorem sz_pos (t : Tm) : 1 ≤ sz t := by cases t; rw [sz]; (first | lia | omega)
theorem sz_kid {o : Str} {l : List Tm} {k : Tm} (h : k ∈ l) : sz k < sz (.node o l) := by
  rw [sz]; have := szs_mem h; (first | lia | omega)

section
variable (ops : List Str)
noncomputable def bag (o : Str) (l : List Tm) : Bool := ops.contains o && decide (2 ≤ l.length)
noncomputable def bagT (t : Tm) : Bool := bag ops t.op t.ks
mutual
noncomputable def kidsB (o : Str) : Tm → List Tm
  | .node o' l => if o' = o ∧ bag ops o' l = true then kidsBs o l else [.node o' l]
noncomputable def kidsBs (o : Str) : List Tm → List Tm
  | [] => []
  | t :: l => kidsB o t ++ kidsBs o l
end
theorem kidsBs_eq (o : Str) : ∀ l, kidsBs ops o l = l.flatMap (kidsB ops o)
  | [] => rfl
  | t :: l => by rw [kidsBs, kidsBs_eq o l]; rfl
noncomputable def keyD (t : Tm) : PyData := .tuple [.int ((pre t).length : Int), .tuple ((pre t).map fun p => .str p.op), .tuple ((pre t).map fun p => .int (p.ks.length : Int))]
noncomputable def pairD (t : Tm) : PyData := .tuple [keyD t, toD t]
noncomputable def insT (x : Tm) : List Tm → List Tm
  | [] => [x]
  | y :: l => if cD (pairD x) (pairD y) = .gt then y :: insT x l else x :: y :: l
noncomputable def sortT : List Tm → List Tm
  | [] => []
  | x :: l => insT x (sortT l)
theorem insT_map (x : Tm) : ∀ l, insC (pairD x) (l.map pairD) = (insT x l).map pairD
  | [] => rfl
  | y :: l => by
    rw [List.map_cons, insC, insT]
    split
    · rw [List.map_cons, insT_map x l]
    · rfl
theorem sortT_map : ∀ l : List Tm, sortC (l.map pairD) = (sortT l).map pairD
  | [] => rfl
  | x :: l => by rw [List.map_cons, sortC, sortT_map l, insT_map, sortT]
theorem insT_perm (x : Tm) : ∀ l, (insT x l).Perm (x :: l)
  | [] => .refl _
  | y :: l => by
    rw [insT]
    split
    · exact ((insT_perm x l).cons y).trans (.swap x y l)
    · exact .refl _
theorem sortT_perm : ∀ l, (sortT l).Perm l
  | [] => .refl _
  | x :: l => (insT_perm x _).trans ((sortT_perm l).cons x)
noncomputable def made (o : Str) (l : List Tm) : Tm := match sortT (l.flatMap (kidsB ops o)) with
  | [x] => x
  | r => .node o r
mutual
noncomputable def normal : Tm → Tm
  | .node o l => if bag ops o l = true then made ops o (normals l) else .node o (normals l)
noncomputable def normals : List Tm → List Tm
  | [] => []
  | t :: l => normal t :: normals l
end
theorem normals_eq : ∀ l, normals ops l = l.map (normal ops)
  | [] => rfl
  | t :: l => by rw [normals, normals_eq l]; rfl
noncomputable def chain (o : Str) : List Tm → Tm
  | [] => .node o []
  | [x] => x
  | x :: y :: l => .node o [x, chain o (y :: l)]
mutual
noncomputable def nested : Tm → Tm
  | .node o l => if bag ops o l = true then chain o (nesteds l) else .node o (nesteds l)
noncomputable def nesteds : List Tm → List Tm
  | [] => []
  | t :: l => nested t :: nesteds l
end
theorem nesteds_eq : ∀ l, nesteds ops l = l.map (nested ops)
  | [] => rfl
  | t :: l => by rw [nesteds, nesteds_eq l]; rfl
mutual
noncomputable def flat : Tm → List Tm
  | .node o l => if bag ops o l = true then flats o l else [.node o l]
noncomputable def flats (o : Str) : List Tm → List Tm
  | [] => []
  | t :: l => (if t.op = o then flat t else [t]) ++ flats o l
end
noncomputable def sel (o : Str) (t : Tm) : List Tm := if t.op = o then flat ops t else [t]
theorem flats_eq (o : Str) : ∀ l, flats ops o l = l.flatMap (sel ops o)
  | [] => rfl
  | t :: l => by rw [flats, flats_eq o l]; rfl
theorem flat_bag {t : Tm} (h : bagT ops t = true) : flat ops t = t.ks.flatMap (sel ops t.op) := by
  cases t with | node o l =>
  rw [flat, if_pos (show bag ops o l = true from h), flats_eq]; rfl
theorem flat_not {t : Tm} (h : ¬ bagT ops t = true) : flat ops t = [t] := by
  cases t with | node o l =>
  rw [flat, if_neg (show ¬ bag ops o l = true from h)]
theorem sel_bag {o : Str} {l : List Tm} (h : bag ops o l = true) : sel ops o (.node o l) = l.flatMap (sel ops o) := by
  show (if o = o then flat ops (.node o l) else _) = _
  rw [if_pos rfl]; exact flat_bag ops (t := .node o l) h
theorem kidsB_sel (o : Str) (t : Tm) : kidsB ops o t = sel ops o t := by
  induction t using tmInd with
  | _ o' l ih =>
    rw [kidsB]
    unfold sel
    rw [flat]
    by_cases h1 : o' = o
    · subst h1
      rw [if_pos (show (Tm.node o' l).op = o' from rfl)]
      by_cases h2 : bag ops o' l = true
      · rw [if_pos ⟨rfl, h2⟩, if_pos h2, kidsBs_eq, flats_eq]
        have : ∀ r : List Tm, (∀ k ∈ r, k ∈ l) → r.flatMap (kidsB ops o') = r.flatMap (sel ops o') := by
          intro r
          induction r with
          | nil => intro _; rfl
          | cons x r ihr =>
            intro hr
            rw [List.flatMap_cons, List.flatMap_cons, ih x (hr x (.head _)), ihr fun k hk => hr k (.tail _ hk)]
        exact this l fun _ h => h
      · rw [if_neg (fun h => h2 h.2), if_neg h2]
    · rw [if_neg fun h => h1 h.1, if_neg (show ¬ (Tm.node o' l).op = o from h1)]
/-- no bag of o -/
noncomputable def notBag (o : Str) (t : Tm) : Prop := t.op = o → ¬ bagT ops t = true
theorem sel_not {o : Str} {t : Tm} (h : notBag ops o t) : sel ops o t = [t] := by
  unfold sel
  split
  · rename_i e; exact flat_not ops (h e)
  · rfl
theorem sel_mem (o : Str) (t : Tm) : ∀ x ∈ sel ops o t, notBag ops o x := by
  induction t using tmInd with
  | _ o' l ih =>
    intro x hx
    by_cases h1 : o' = o
    · subst h1
      by_cases h2 : bag ops o' l = true
      · have e := sel_bag ops (show bag ops o' l = true from h2)
        rw [e] at hx
        obtain ⟨k, hk, hx⟩ := List.mem_flatMap.mp hx
        exact ih k hk x hx
      · have : notBag ops o' (.node o' l) := fun _ => h2
        rw [sel_not ops this] at hx
        rw [List.mem_singleton.mp hx]; exact this
    · have : notBag ops o (.node o' l) := fun e => absurd e h1
      rw [sel_not ops this] at hx
      rw [List.mem_singleton.mp hx]; exact this
theorem flat_mem {t x : Tm} (h : bagT ops t = true) (hx : x ∈ flat ops t) : notBag ops t.op x := by
  rw [flat_bag ops h] at hx
  obtain ⟨k, _, hx⟩ := List.mem_flatMap.mp hx
  exact sel_mem ops _ k x hx
theorem sel_sz (o : Str) (t : Tm) : ∀ x ∈ sel ops o t, sz x ≤ sz t := by
  induction t using tmInd with
  | _ o' l ih =>
    intro x hx
    by_cases h : notBag ops o (.node o' l)
    · rw [sel_not ops h] at hx
      rw [List.mem_singleton.mp hx]; exact Nat.le_refl _
    · unfold notBag at h
      simp only [Classical.not_imp, Classical.not_not] at h
      obtain ⟨h1, h2⟩ := h
      have h1 : o' = o := h1
      subst h1
      have e := sel_bag ops (show bag ops o' l = true from h2)
      rw [e] at hx
      obtain ⟨k, hk, hx⟩ := List.mem_flatMap.mp hx
      have := ih k hk x hx
      have := sz_kid (o := o') hk
      (first | lia | omega)
theorem flat_sz {t x : Tm} (h : bagT ops t = true) (hx : x ∈ flat ops t) : sz x < sz t := by
  rw [flat_bag ops h] at hx
  obtain ⟨k, hk, hx⟩ := List.mem_flatMap.mp hx
  have := sel_sz ops _ k x hx
  cases t with | node o l =>
  have h3 : sz k < sz (.node o l) := sz_kid hk
  (first | lia | omega)
theorem sel_ne (o : Str) (t : Tm) : 1 ≤ (sel ops o t).length := by
  induction t using tmInd with
  | _ o' l ih =>
    by_cases h : notBag ops o (.node o' l)
    · rw [sel_not ops h]; exact Nat.le_refl _
    · unfold notBag at h
      simp only [Classical.not_imp, Classical.not_not] at h
      obtain ⟨h1, h2⟩ := h
      have h1 : o' = o := h1
      subst h1
      have e := sel_bag ops (show bag ops o' l = true from h2)
      rw [e]
      match l, h2, ih with
      | [], h2, _ => simp [bagT, bag, Tm.ks] at h2
      | k :: r, _, ih =>
        rw [List.flatMap_cons, List.length_append]
        have := ih k (.head _)
        (first | lia | omega)
theorem flatMap_len {f : Tm → List Tm} (hf : ∀ x, 1 ≤ (f x).length) : ∀ l : List Tm, l.length ≤ (l.flatMap f).length
  | [] => Nat.le_refl _
  | x :: l => by
    rw [List.flatMap_cons, List.length_append, List.length_cons]
    have := hf x
    have := flatMap_len hf l
    (first | lia | omega)
theorem bag_two {t : Tm} (h : bagT ops t = true) : 2 ≤ t.ks.length := by
  unfold bagT bag at h
  simp only [Bool.and_eq_true, decide_eq_true_eq] at h
  exact h.2
theorem flat_two {t : Tm} (h : bagT ops t = true) : 2 ≤ (flat ops t).length := by
  rw [flat_bag ops h]
  have := flatMap_len (sel_ne ops t.op) t.ks
  have := bag_two ops h
  (first | lia | omega)
end
end Mine

namespace Mine
open PySem
open Tm

/-! sorting through a map -/
section
variable {α : Type} (e : α → PyData)
noncomputable def insB (x : α) : List α → List α
  | [] => [x]
  | y :: l => if cD (e x) (e y) = .gt then y :: insB x l else x :: y :: l
noncomputable def sortB : List α → List α
  | [] => []
  | x :: l => insB e x (sortB l)
theorem insB_map (x : α) : ∀ l, insC (e x) (l.map e) = (insB e x l).map e
  | [] => rfl
  | y :: l => by
    rw [List.map_cons, insC, insB]
    split
    · rw [List.map_cons, insB_map x l]
    · rfl
theorem sortB_map : ∀ l : List α, sortC (l.map e) = (sortB e l).map e
  | [] => rfl
  | x :: l => by rw [List.map_cons, sortC, sortB_map l, insB_map, sortB]
theorem insB_perm (x : α) : ∀ l, (insB e x l).Perm (x :: l)
  | [] => .refl _
  | y :: l => by
    rw [insB]
    split
    · exact ((insB_perm x l).cons y).trans (.swap x y l)
    · exact .refl _
theorem sortB_perm : ∀ l, (sortB e l).Perm l
  | [] => .refl _
  | x :: l => (insB_perm e x _).trans ((sortB_perm l).cons x)
theorem map_inj {β : Type} {f : α → β} : ∀ {l r : List α}, (∀ x ∈ l, ∀ y ∈ r, f x = f y → x = y) → l.map f = r.map f → l = r
  | [], [], _, _ => rfl
  | [], _ :: _, _, h => by simp at h
  | _ :: _, [], _, h => by simp at h
  | x :: l, y :: r, h, q => by
    simp only [List.map_cons, List.cons.injEq] at q
    rw [h x (.head _) y (.head _) q.1, map_inj (fun a ha b hb => h a (.tail _ ha) b (.tail _ hb)) q.2]
theorem sortB_canon {l r : List α} (hg : ∀ x ∈ l, gd (e x) = true) (hi : ∀ x ∈ l, ∀ y ∈ r, e x = e y → x = y) (p : l.Perm r) : sortB e l = sortB e r := by
  have g1 : ∀ y ∈ l.map e, gd y = true := fun y hy => by
    obtain ⟨x, hx, rfl⟩ := List.mem_map.mp hy; exact hg x hx
  have g2 : ∀ y ∈ r.map e, gd y = true := fun y hy => by
    obtain ⟨x, hx, rfl⟩ := List.mem_map.mp hy; exact hg x (p.mem_iff.mpr hx)
  have : sortC (l.map e) = sortC (r.map e) :=
    asc_unique (fun y hy => g1 y ((sortC_perm _).mem_iff.mp hy)) ((sortC_perm _).trans ((p.map e).trans (sortC_perm _).symm)) (sortC_asc g1) (sortC_asc g2)
  rw [sortB_map, sortB_map] at this
  exact map_inj (fun x hx y hy => hi x ((sortB_perm e l).mem_iff.mp hx) y ((sortB_perm e r).mem_iff.mp hy)) this
end
theorem sortT_eq : ∀ l, sortT l = sortB pairD l := by
  have h1 : ∀ x l, insT x l = insB pairD x l := by
    intro x l
    induction l with
    | nil => rfl
    | cons y l ih => rw [insT, insB, ih]
  intro l
  induction l with
  | nil => rfl
  | cons x l ih => rw [sortT, sortB, ih, h1]

/-! trees as data -/
theorem gd_toD (t : Tm) : gd (toD t) = true := by
  induction t using tmInd with
  | _ o l ih =>
    rw [toD, toDs_eq]
    have : ∀ r : List Tm, (∀ k ∈ r, gd (toD k) = true) → gdL (r.map toD) = true := by
      intro r
      induction r with
      | nil => intro _; rfl
      | cons x r ihr =>
        intro h
        rw [List.map_cons, gdL, h x (.head _), ihr fun k hk => h k (.tail _ hk)]; rfl
    simp only [gd, gdL, this l ih, Bool.true_and]
theorem gdL_map {α : Type} {f : α → PyData} : ∀ {l : List α}, (∀ k ∈ l, gd (f k) = true) → gdL (l.map f) = true
  | [], _ => rfl
  | x :: r, h => by rw [List.map_cons, gdL, h x (.head _), gdL_map fun k hk => h k (.tail _ hk)]; rfl
theorem toD_inj (t : Tm) : ∀ u, toD t = toD u → t = u := by
  induction t using tmInd with
  | _ o l ih =>
    intro u h
    cases u with | node o' l' =>
    rw [toD, toD, toDs_eq, toDs_eq] at h
    simp only [PyData.tuple.injEq, List.cons.injEq, PyData.str.injEq] at h
    rw [h.1, map_inj (fun x hx y _ => ih x hx y) h.2]
theorem gd_keyD (t : Tm) : gd (keyD t) = true := by
  unfold keyD
  simp only [gd, gdL, Bool.and_true, Bool.true_and]
  rw [gdL_map fun _ _ => rfl, gdL_map fun _ _ => rfl]; rfl
theorem gd_pairD (t : Tm) : gd (pairD t) = true := by
  unfold pairD
  simp only [gd, gdL, gd_keyD, gd_toD, Bool.and_true]
theorem pairD_inj {t u : Tm} (h : pairD t = pairD u) : t = u := by
  unfold pairD at h
  simp only [PyData.tuple.injEq, List.cons.injEq, and_true] at h
  exact toD_inj t u h.2
theorem sortT_canon {l r : List Tm} (p : l.Perm r) : sortT l = sortT r := by
  rw [sortT_eq, sortT_eq]
  exact sortB_canon pairD (fun x _ => gd_pairD x) (fun x _ y _ h => pairD_inj h) p
noncomputable abbrev sortS : List Str → List Str := sortB .str
theorem sortS_canon {l r : List Str} (p : l.Perm r) : sortS l = sortS r := sortB_canon .str (fun _ _ => rfl) (fun x _ y _ h => by cases h; rfl) p

/-! the counted form -/
noncomputable def chL : Str := Str.ofString "("
noncomputable def chR : Str := Str.ofString ")"
noncomputable def chl : Str := Str.ofString "{"
noncomputable def chr : Str := Str.ofString "}"
section
variable (ops : List Str)
noncomputable def counted (t : Tm) : Str :=
  if h : bagT ops t = true then chl ++ t.op ++ catS (sortS ((flat ops t).attach.map fun x => counted x.1)) ++ chr
  else chL ++ t.op ++ catS (t.ks.attach.map fun x => counted x.1) ++ chR
termination_by sz t
decreasing_by
  · exact flat_sz ops h x.2
  · have h3 := x.2
    cases t with | node o l => exact sz_kid h3
theorem counted_bag {t : Tm} (h : bagT ops t = true) : counted ops t = chl ++ t.op ++ catS (sortS ((flat ops t).map (counted ops))) ++ chr := by
  rw [counted, dif_pos h]
  congr 3
  exact congrArg sortS (List.attach_map_val (f := counted ops))
theorem counted_not {t : Tm} (h : ¬ bagT ops t = true) : counted ops t = chL ++ t.op ++ catS (t.ks.map (counted ops)) ++ chR := by
  rw [counted, dif_neg h]
  congr 3
  exact List.attach_map_val (f := counted ops)
end
noncomputable def cl (s : Str) : List Nat := s.cps.toList
theorem cl_append (a b : Str) : cl (a ++ b) = cl a ++ cl b := by
  unfold cl; rw [Str.cps_append, Array.toList_append]
theorem cl_cat : ∀ l : List Str, cl (catS l) = l.flatMap cl
  | [] => rfl
  | x :: l => by rw [catS, cl_append, cl_cat l, List.flatMap_cons]
noncomputable def brk (c : Nat) : Bool := c == 40 || c == 41 || c == 123 || c == 125
noncomputable def val (c : Nat) : Int := if c = 40 ∨ c = 123 then 1 else if c = 41 ∨ c = 125 then -1 else 0
noncomputable def ht : List Nat → Int
  | [] => 0
  | c :: l => val c + ht l
theorem ht_append : ∀ a b, ht (a ++ b) = ht a + ht b
  | [], b => by simp [ht]
  | c :: a, b => by rw [List.cons_append, ht, ht, ht_append a b]; (first | lia | omega)
noncomputable def bal (w : List Nat) : Prop := ht w = 0 ∧ ∀ n, 0 ≤ ht (w.take n)
structure prim (w : List Nat) : Prop where
  z : ht w = 0
  p : ∀ n, 0 < n → n < w.length → 0 < ht (w.take n)
  h : ∃ c r, w = c :: r ∧ brk c = true
theorem bal_nil : bal [] := ⟨rfl, fun n => by simp [ht]⟩
theorem bal_append {a b : List Nat} (x : bal a) (y : bal b) : bal (a ++ b) := by
  refine ⟨by rw [ht_append, x.1, y.1]; rfl, fun n => ?_⟩
  rw [List.take_append, ht_append]
  have := x.2 n
  have := y.2 (n - a.length)
  (first | lia | omega)
theorem prim.bal {w : List Nat} (x : prim w) : Mine.bal w := by
  refine ⟨x.z, fun n => ?_⟩
  by_cases h0 : n = 0
  · subst h0; simp [ht]
  · by_cases h1 : n < w.length
    · have := x.p n (by (first | lia | omega)) h1; (first | lia | omega)
    · rw [List.take_of_length_le (by (first | lia | omega)), x.z]; exact Int.le_refl _
theorem bal_flat : ∀ {l : List Str}, (∀ s ∈ l, prim (cl s)) → bal (l.flatMap cl)
  | [], _ => bal_nil
  | x :: l, h => by
    rw [List.flatMap_cons]
    exact bal_append (h x (.head _)).bal (bal_flat fun s hs => h s (.tail _ hs))
noncomputable def noB (s : Str) : Prop := ∀ c ∈ cl s, brk c = false
theorem val_noB {c : Nat} (h : brk c = false) : val c = 0 := by
  unfold brk at h
  simp only [Bool.or_eq_false_iff, beq_eq_false_iff_ne] at h
  unfold val
  rw [if_neg (by (first | lia | omega)), if_neg (by (first | lia | omega))]
theorem ht_noB : ∀ {w : List Nat}, (∀ c ∈ w, brk c = false) → ht w = 0
  | [], _ => rfl
  | c :: w, h => by rw [ht, val_noB (h c (.head _)), ht_noB fun x hx => h x (.tail _ hx)]; rfl
theorem bal_noB {s : Str} (h : noB s) : bal (cl s) :=
  ⟨ht_noB h, fun n => by rw [ht_noB fun c hc => h c (List.mem_of_mem_take hc)]; exact Int.le_refl _⟩
theorem prim_wrap {c d : Nat} (hc : val c = 1) (hd : val d = -1) (hb : brk c = true) {m : List Nat} (b : bal m) : prim (c :: m ++ [d]) := by
  refine ⟨?_, fun n h0 h1 => ?_, c, m ++ [d], rfl, hb⟩
  · rw [ht_append, ht, hc, b.1]; simp [ht, hd]
  · obtain ⟨n, rfl⟩ : ∃ k, n = k + 1 := ⟨n - 1, by (first | lia | omega)⟩
    simp only [List.cons_append, List.length_cons, List.length_append, List.length_nil] at h1
    rw [List.cons_append, List.take_succ_cons, List.take_append_of_le_length (by (first | lia | omega)), ht, hc]
    have := b.2 n
    (first | lia | omega)
theorem prim_split {a b x y : List Nat} (p : prim a) (q : prim b) (h : a ++ x = b ++ y) : a = b ∧ x = y := by
  have key : ∀ {a b x y : List Nat}, prim a → prim b → a ++ x = b ++ y → a.length ≤ b.length → a = b := by
    intro a b x y p q h hl
    have e : a = b.take a.length := by
      have := congrArg (List.take a.length) h
      rw [List.take_left, List.take_append_of_le_length hl] at this
      exact this
    by_cases hlt : a.length < b.length
    · have h0 : 0 < a.length := by obtain ⟨c, r, e, _⟩ := p.h; rw [e]; simp
      have := q.p a.length h0 hlt
      rw [← e, p.z] at this
      exact absurd this (by simp)
    · rw [e, List.take_of_length_le (by (first | lia | omega))]
  have e : a = b := by
    rcases Nat.le_total a.length b.length with hl | hl
    · exact key p q h hl
    · exact (key q p h.symm hl).symm
  subst e
  exact ⟨rfl, List.append_cancel_left h⟩
theorem prims_eq : ∀ {l r : List Str}, (∀ s ∈ l, prim (cl s)) → (∀ s ∈ r, prim (cl s)) → l.flatMap cl = r.flatMap cl → l = r
  | [], [], _, _, _ => rfl
  | [], y :: r, _, h, e => by
    obtain ⟨c, q, e', _⟩ := (h y (.head _)).h
    rw [List.flatMap_cons, e'] at e; simp at e
  | x :: l, [], h, _, e => by
    obtain ⟨c, q, e', _⟩ := (h x (.head _)).h
    rw [List.flatMap_cons, e'] at e; simp at e
  | x :: l, y :: r, h, k, e => by
    rw [List.flatMap_cons, List.flatMap_cons] at e
    obtain ⟨e1, e2⟩ := prim_split (h x (.head _)) (k y (.head _)) e
    rw [cps_inj e1, prims_eq (fun s hs => h s (.tail _ hs)) (fun s hs => k s (.tail _ hs)) e2]
theorem op_split {a b : Str} {x y : List Nat} (ha : noB a) (hb : noB b) (hx : ∃ c r, x = c :: r ∧ brk c = true) (hy : ∃ c r, y = c :: r ∧ brk c = true) (h : cl a ++ x = cl b ++ y) : a = b ∧ x = y := by
  have key : ∀ {a b : List Nat} {x y : List Nat}, (∀ c ∈ b, brk c = false) → (∃ c r, x = c :: r ∧ brk c = true) → a ++ x = b ++ y → a.length ≤ b.length → a = b := by
    intro a b x y hb hx h hl
    rcases List.append_eq_append_iff.mp h with ⟨a', e1, e2⟩ | ⟨a', e1, e2⟩
    · cases a' with
      | nil => simpa using e1.symm
      | cons c r =>
        obtain ⟨d, q, e3, hd⟩ := hx
        rw [e3] at e2
        simp only [List.cons_append, List.cons.injEq] at e2
        have := hb c (by rw [e1]; simp)
        rw [← e2.1, hd] at this; cases this
    · have : a'.length = 0 := by rw [e1, List.length_append] at hl; (first | lia | omega)
      rw [List.length_eq_zero_iff.mp this] at e1
      simpa using e1
  have e : cl a = cl b := by
    rcases Nat.le_total (cl a).length (cl b).length with hl | hl
    · exact key hb hx h hl
    · exact (key ha hy h.symm hl).symm
  rw [e] at h
  exact ⟨cps_inj e, List.append_cancel_left h⟩
end Mine

namespace Mine
open PySem
open Tm

noncomputable def good (t : Tm) : Prop := ∀ p ∈ pre t, noB p.op
theorem pre_self (t : Tm) : t ∈ pre t := by cases t; rw [pre]; exact .head _
theorem pre_kid {o : Str} {l : List Tm} {k p : Tm} (hk : k ∈ l) (hp : p ∈ pre k) : p ∈ pre (.node o l) := by
  rw [pre, pres_eq]; exact .tail _ (List.mem_flatMap.mpr ⟨k, hk, hp⟩)
theorem good_kid {o : Str} {l : List Tm} (h : good (.node o l)) {k : Tm} (hk : k ∈ l) : good k := fun p hp => h p (pre_kid hk hp)
theorem good_op {t : Tm} (h : good t) : noB t.op := h t (pre_self t)
section
variable (ops : List Str)
theorem sel_pre (o : Str) (t : Tm) : ∀ x ∈ sel ops o t, ∀ p ∈ pre x, p ∈ pre t := by
  induction t using tmInd with
  | _ o' l ih =>
    intro x hx p hp
    by_cases h : notBag ops o (.node o' l)
    · rw [sel_not ops h] at hx
      rw [List.mem_singleton.mp hx] at hp; exact hp
    · unfold notBag at h
      simp only [Classical.not_imp, Classical.not_not] at h
      obtain ⟨h1, h2⟩ := h
      have h1 : o' = o := h1
      subst h1
      rw [sel_bag ops (show bag ops o' l = true from h2)] at hx
      obtain ⟨k, hk, hx⟩ := List.mem_flatMap.mp hx
      exact pre_kid hk (ih k hk x hx p hp)
theorem flat_pre {t x : Tm} (h : bagT ops t = true) (hx : x ∈ flat ops t) : ∀ p ∈ pre x, p ∈ pre t := fun p hp => by
  rw [flat_bag ops h] at hx
  obtain ⟨k, hk, hx⟩ := List.mem_flatMap.mp hx
  cases t with | node o l =>
  exact pre_kid hk (sel_pre ops _ k x hx p hp)
theorem flat_good {t x : Tm} (g : good t) (h : bagT ops t = true) (hx : x ∈ flat ops t) : good x := fun p hp => g p (flat_pre ops h hx p hp)
theorem strong {P : Tm → Prop} (h : ∀ t, (∀ x, sz x < sz t → P x) → P t) (t : Tm) : P t := by
  have : ∀ n, ∀ t, sz t ≤ n → P t := by
    intro n
    induction n with
    | zero => intro t ht; have := sz_pos t; (first | lia | omega)
    | succ n ih => intro t ht; exact h t fun x hx => ih x (by (first | lia | omega))
  exact this _ t (Nat.le_refl _)
theorem ks_sz {t k : Tm} (h : k ∈ t.ks) : sz k < sz t := by cases t with | node o l => exact sz_kid h
theorem good_ks {t k : Tm} (g : good t) (h : k ∈ t.ks) : good k := by cases t with | node o l => exact good_kid g h
theorem prim_counted (t : Tm) : good t → prim (cl (counted ops t)) := by
  induction t using strong with
  | h t ih =>
    intro g
    by_cases hb : bagT ops t = true
    · rw [counted_bag ops hb, cl_append, cl_append, cl_append, cl_cat]
      have ee : ∀ a b : List Nat, ([123] ++ a ++ b) ++ [125] = (123 :: (a ++ b)) ++ [125] := fun a b => by simp
      show prim (([123] ++ cl t.op ++ _) ++ [125])
      rw [ee]
      refine prim_wrap rfl rfl rfl (bal_append (bal_noB (good_op g)) (bal_flat fun s hs => ?_))
      obtain ⟨x, hx, rfl⟩ := List.mem_map.mp ((sortB_perm .str _).mem_iff.mp hs)
      exact ih x (flat_sz ops hb hx) (flat_good ops g hb hx)
    · rw [counted_not ops hb, cl_append, cl_append, cl_append, cl_cat]
      have ee : ∀ a b : List Nat, ([40] ++ a ++ b) ++ [41] = (40 :: (a ++ b)) ++ [41] := fun a b => by simp
      show prim (([40] ++ cl t.op ++ _) ++ [41])
      rw [ee]
      refine prim_wrap rfl rfl rfl (bal_append (bal_noB (good_op g)) (bal_flat fun s hs => ?_))
      obtain ⟨x, hx, rfl⟩ := List.mem_map.mp hs
      exact ih x (ks_sz hx) (good_ks g hx)

/-! the normal form -/
theorem made_eq {o : Str} {l : List Tm} (h : 2 ≤ l.length) : made ops o l = .node o (sortT (l.flatMap (sel ops o))) ∧ 2 ≤ (sortT (l.flatMap (sel ops o))).length := by
  have e : l.flatMap (kidsB ops o) = l.flatMap (sel ops o) := by
    congr 1; funext t; exact kidsB_sel ops o t
  have hl : 2 ≤ (sortT (l.flatMap (sel ops o))).length := by
    rw [(sortT_perm _).length_eq]
    have := flatMap_len (sel_ne ops o) l
    (first | lia | omega)
  refine ⟨?_, hl⟩
  unfold made
  rw [e]
  generalize sortT (l.flatMap (sel ops o)) = r at *
  match r, hl with
  | _ :: _ :: _, _ => rfl
theorem normal_bag {t : Tm} (h : bagT ops t = true) : normal ops t = .node t.op (sortT ((t.ks.map (normal ops)).flatMap (sel ops t.op))) ∧ 2 ≤ (sortT ((t.ks.map (normal ops)).flatMap (sel ops t.op))).length := by
  cases t with | node o l =>
  have := made_eq ops (o := o) (l := l.map (normal ops)) (by rw [List.length_map]; exact bag_two ops h)
  rw [normal, if_pos (show bag ops o l = true from h), normals_eq]
  exact this
theorem normal_not {t : Tm} (h : ¬ bagT ops t = true) : normal ops t = .node t.op (t.ks.map (normal ops)) := by
  cases t with | node o l =>
  rw [normal, if_neg (show ¬ bag ops o l = true from h), normals_eq]; rfl
theorem normal_op (t : Tm) : (normal ops t).op = t.op := by
  by_cases h : bagT ops t = true
  · rw [(normal_bag ops h).1]; rfl
  · rw [normal_not ops h]; rfl
theorem bagT_iff {t : Tm} : bagT ops t = true ↔ ops.contains t.op = true ∧ 2 ≤ t.ks.length := by
  unfold bagT bag; simp only [Bool.and_eq_true, decide_eq_true_eq]
theorem normal_bagT (t : Tm) : bagT ops (normal ops t) = true ↔ bagT ops t = true := by
  by_cases h : bagT ops t = true
  · have h' := (bagT_iff ops).mp h
    obtain ⟨e, hl⟩ := normal_bag ops h
    refine ⟨fun _ => h, fun _ => (bagT_iff ops).mpr ⟨by rw [normal_op]; exact h'.1, ?_⟩⟩
    rw [e]; exact hl
  · rw [bagT_iff, bagT_iff, normal_op]
    have : (normal ops t).ks.length = t.ks.length := by rw [normal_not ops h]; show (t.ks.map _).length = _; rw [List.length_map]
    rw [this]
theorem normal_notBag {o : Str} {t : Tm} (h : notBag ops o t) : notBag ops o (normal ops t) := fun e b => h (by rw [← normal_op ops t]; exact e) ((normal_bagT ops t).mp b)
theorem flatMap_perm {f g : Tm → List Tm} {h : Tm → Tm} : ∀ {l : List Tm}, (∀ k ∈ l, (f (h k)).Perm ((g k).map h)) → ((l.map h).flatMap f).Perm ((l.flatMap g).map h)
  | [], _ => .refl _
  | k :: l, p => by
    rw [List.map_cons, List.flatMap_cons, List.flatMap_cons, List.map_append]
    exact (p k (.head _)).append (flatMap_perm fun x hx => p x (.tail _ hx))
theorem sel_normal (o : Str) (t : Tm) : (sel ops o (normal ops t)).Perm ((sel ops o t).map (normal ops)) := by
  induction t using tmInd with
  | _ o' l ih =>
    by_cases h : notBag ops o (.node o' l)
    · rw [sel_not ops h, sel_not ops (normal_notBag ops h)]; exact .refl _
    · unfold notBag at h
      simp only [Classical.not_imp, Classical.not_not] at h
      obtain ⟨h1, h2⟩ := h
      have h1 : o' = o := h1
      subst h1
      obtain ⟨e, hl⟩ := normal_bag ops h2
      have p : (sortT ((l.map (normal ops)).flatMap (sel ops o'))).Perm ((l.flatMap (sel ops o')).map (normal ops)) := (sortT_perm _).trans (flatMap_perm fun k hk => ih k hk)
      rw [sel_bag ops (show bag ops o' l = true from h2)]
      have hb := (normal_bagT ops (.node o' l)).mpr h2
      rw [e] at hb ⊢
      have e2 : sel ops o' (.node o' (sortT ((l.map (normal ops)).flatMap (sel ops o')))) = (sortT ((l.map (normal ops)).flatMap (sel ops o'))).flatMap (sel ops o') := sel_bag ops hb
      refine List.Perm.trans ?_ p
      show (sel ops o' (.node o' (sortT ((l.map (normal ops)).flatMap (sel ops o'))))).Perm (sortT ((l.map (normal ops)).flatMap (sel ops o')))
      rw [e2]
      have : ∀ r : List Tm, (∀ x ∈ r, notBag ops o' x) → r.flatMap (sel ops o') = r := by
        intro r
        induction r with
        | nil => intro _; rfl
        | cons x r ihr =>
          intro hr
          rw [List.flatMap_cons, sel_not ops (hr x (.head _)), ihr fun k hk => hr k (.tail _ hk)]; rfl
      rw [this]
      intro x hx
      have hx := p.mem_iff.mp hx
      obtain ⟨y, hy, rfl⟩ := List.mem_map.mp hx
      obtain ⟨k, hk, hy⟩ := List.mem_flatMap.mp hy
      exact normal_notBag ops (sel_mem ops o' k y hy)
theorem normal_flat {t : Tm} (h : bagT ops t = true) : normal ops t = .node t.op (sortT ((flat ops t).map (normal ops))) := by
  rw [(normal_bag ops h).1]
  congr 1
  refine sortT_canon ?_
  rw [flat_bag ops h]
  exact flatMap_perm fun k hk => sel_normal ops t.op k
/-- the bag's own things below the normal form -/
theorem flat_normal {t : Tm} (h : bagT ops t = true) : flat ops (normal ops t) = sortT ((flat ops t).map (normal ops)) := by
  have hb := (normal_bagT ops t).mpr h
  rw [flat_bag ops hb, normal_flat ops h]
  show (sortT ((flat ops t).map (normal ops))).flatMap (sel ops t.op) = _
  have : ∀ r : List Tm, (∀ x ∈ r, notBag ops t.op x) → r.flatMap (sel ops t.op) = r := by
    intro r
    induction r with
    | nil => intro _; rfl
    | cons x r ihr =>
      intro hr
      rw [List.flatMap_cons, sel_not ops (hr x (.head _)), ihr fun k hk => hr k (.tail _ hk)]; rfl
  refine this _ fun x hx => ?_
  obtain ⟨y, hy, rfl⟩ := List.mem_map.mp ((sortT_perm _).mem_iff.mp hx)
  exact normal_notBag ops (flat_mem ops h hy)
theorem counted_normal (t : Tm) : counted ops (normal ops t) = counted ops t := by
  induction t using strong with
  | h t ih =>
    by_cases hb : bagT ops t = true
    · rw [counted_bag ops ((normal_bagT ops t).mpr hb), counted_bag ops hb, flat_normal ops hb, normal_op]
      congr 3
      refine sortS_canon ?_
      refine ((sortT_perm _).map _).trans ?_
      rw [List.map_map]
      refine List.Perm.of_eq (List.map_congr_left fun x hx => ih x (flat_sz ops hb hx))
    · rw [counted_not ops (fun h => hb ((normal_bagT ops t).mp h)), counted_not ops hb, normal_op]
      congr 3
      rw [normal_not ops hb]
      show (t.ks.map (normal ops)).map (counted ops) = _
      rw [List.map_map]
      exact List.map_congr_left fun x hx => ih x (ks_sz hx)
theorem perm_map_of {α β γ : Type} {f : α → β} {g : α → γ} : ∀ {l r : List α}, (∀ x ∈ l, ∀ y ∈ r, f x = f y → g x = g y) → (l.map f).Perm (r.map f) → (l.map g).Perm (r.map g)
  | [], r, _, p => by
    have := List.nil_perm.mp p
    rw [List.map_eq_nil_iff.mp this]
  | x :: l, r, h, p => by
    have hm : f x ∈ r.map f := p.mem_iff.mp (by rw [List.map_cons]; exact .head _)
    obtain ⟨y, hy, e⟩ := List.mem_map.mp hm
    obtain ⟨r1, r2, rfl⟩ := List.append_of_mem hy
    have p2 : (l.map f).Perm ((r1 ++ r2).map f) := by
      have : ((x :: l).map f).Perm (f x :: (r1 ++ r2).map f) := by
        refine p.trans ?_
        rw [List.map_append, List.map_cons, e, List.map_append]
        exact List.perm_middle
      exact List.Perm.cons_inv this
    have q := perm_map_of (fun a ha b hb => h a (.tail _ ha) b (by
      rcases List.mem_append.mp hb with z | z
      · exact List.mem_append.mpr (.inl z)
      · exact List.mem_append.mpr (.inr (.tail _ z)))) p2
    rw [List.map_cons, h x (.head _) y hy e.symm, List.map_append, List.map_cons]
    rw [List.map_append] at q
    exact (q.cons (g y)).trans List.perm_middle.symm
theorem map_eq_of {α β γ : Type} {f : α → β} {g : α → γ} : ∀ {l r : List α}, (∀ x ∈ l, ∀ y ∈ r, f x = f y → g x = g y) → l.map f = r.map f → l.map g = r.map g
  | [], [], _, _ => rfl
  | [], _ :: _, _, h => by simp at h
  | _ :: _, [], _, h => by simp at h
  | x :: l, y :: r, h, p => by
    simp only [List.map_cons, List.cons.injEq] at p ⊢
    exact ⟨h x (.head _) y (.head _) p.1, map_eq_of (fun a ha b hb => h a (.tail _ ha) b (.tail _ hb)) p.2⟩
theorem wrap_split {a b c d : Str} {l r : List Str} (ha : noB a) (hb : noB b) (hl : ∀ s ∈ l, prim (cl s)) (hr : ∀ s ∈ r, prim (cl s)) {z : Nat} (hz : brk z = true) (h : cl a ++ (l.flatMap cl ++ [z]) = cl b ++ (r.flatMap cl ++ [z])) : a = b ∧ l = r := by
  have hd : ∀ {l : List Str}, (∀ s ∈ l, prim (cl s)) → ∃ c r, l.flatMap cl ++ [z] = c :: r ∧ brk c = true := by
    intro l hl
    cases l with
    | nil => exact ⟨z, [], rfl, hz⟩
    | cons s l =>
      obtain ⟨c, q, e, hc⟩ := (hl s (.head _)).h
      refine ⟨c, q ++ l.flatMap cl ++ [z], ?_, hc⟩
      rw [List.flatMap_cons, e]; simp
  obtain ⟨e1, e2⟩ := op_split ha hb (hd hl) (hd hr) h
  exact ⟨e1, prims_eq hl hr (List.append_cancel_right e2)⟩
theorem counted_inj (t : Tm) : ∀ u, good t → good u → counted ops t = counted ops u → normal ops t = normal ops u := by
  induction t using strong with
  | h t ih =>
    intro u gt gu e
    have ec := congrArg cl e
    by_cases ht : bagT ops t = true
    · rw [counted_bag ops ht] at ec
      by_cases hu : bagT ops u = true
      · rw [counted_bag ops hu] at ec
        simp only [cl_append, cl_cat, List.append_assoc] at ec
        have ec := List.append_cancel_left ec
        have p1 : ∀ s ∈ sortS ((flat ops t).map (counted ops)), prim (cl s) := fun s hs => by
          obtain ⟨x, hx, rfl⟩ := List.mem_map.mp ((sortB_perm .str _).mem_iff.mp hs)
          exact prim_counted ops x (flat_good ops gt ht hx)
        have p2 : ∀ s ∈ sortS ((flat ops u).map (counted ops)), prim (cl s) := fun s hs => by
          obtain ⟨x, hx, rfl⟩ := List.mem_map.mp ((sortB_perm .str _).mem_iff.mp hs)
          exact prim_counted ops x (flat_good ops gu hu hx)
        obtain ⟨e1, e2⟩ := wrap_split (c := t.op) (d := t.op) (good_op gt) (good_op gu) p1 p2 (z := 125) rfl ec
        rw [normal_flat ops ht, normal_flat ops hu, e1]
        congr 1
        refine sortT_canon ?_
        refine perm_map_of (f := counted ops) (fun x hx y hy q => ih x (flat_sz ops ht hx) y (flat_good ops gt ht hx) (flat_good ops gu hu hy) q) ?_
        exact (sortB_perm .str _).symm.trans ((List.Perm.of_eq e2).trans (sortB_perm .str _))
      · rw [counted_not ops hu] at ec
        simp only [cl_append, List.append_assoc] at ec
        have : (123 : Nat) = 40 := by
          have := congrArg List.head? ec
          exact Option.some.inj this
        (first | lia | omega)
    · rw [counted_not ops ht] at ec
      by_cases hu : bagT ops u = true
      · rw [counted_bag ops hu] at ec
        simp only [cl_append, List.append_assoc] at ec
        have : (40 : Nat) = 123 := by
          have := congrArg List.head? ec
          exact Option.some.inj this
        (first | lia | omega)
      · rw [counted_not ops hu] at ec
        simp only [cl_append, cl_cat, List.append_assoc] at ec
        have ec := List.append_cancel_left ec
        have p1 : ∀ s ∈ t.ks.map (counted ops), prim (cl s) := fun s hs => by
          obtain ⟨x, hx, rfl⟩ := List.mem_map.mp hs
          exact prim_counted ops x (good_ks gt hx)
        have p2 : ∀ s ∈ u.ks.map (counted ops), prim (cl s) := fun s hs => by
          obtain ⟨x, hx, rfl⟩ := List.mem_map.mp hs
          exact prim_counted ops x (good_ks gu hx)
        obtain ⟨e1, e2⟩ := wrap_split (c := t.op) (d := t.op) (good_op gt) (good_op gu) p1 p2 (z := 41) rfl ec
        rw [normal_not ops ht, normal_not ops hu, e1]
        congr 1
        exact map_eq_of (f := counted ops) (fun x hx y hy q => ih x (ks_sz hx) y (good_ks gt hx) (good_ks gu hy) q) e2
theorem likes {t u : Tm} (gt : good t) (gu : good u) : normal ops t = normal ops u ↔ counted ops t = counted ops u :=
  ⟨fun h => by rw [← counted_normal ops t, h, counted_normal], counted_inj ops t u gt gu⟩
end
end Mine

namespace Mine
open PySem
open Tm

section
variable (ops : List Str)
/-! a normal term's parts -/
noncomputable def lawKey (t : Tm) : PyData := .tuple [.int ((pre t).length : Int), .list ((pre t).map fun p => .str p.op), .list ((pre t).map fun p => .int ((p.ks.length + 1 : Nat) : Int))]
theorem cL_shift : ∀ (l r : List Nat), cL (l.map fun (n : Nat) => PyData.int ((n + 1 : Nat) : Int)) (r.map fun (n : Nat) => PyData.int ((n + 1 : Nat) : Int)) = cL (l.map fun (n : Nat) => PyData.int (n : Int)) (r.map fun (n : Nat) => PyData.int (n : Int))
  | [], [] => rfl
  | [], _ :: _ => rfl
  | _ :: _, [] => rfl
  | x :: l, y :: r => by
    simp only [List.map_cons, cL]
    rw [cL_shift l r]
    congr 1
    simp only [cD]
    show compareOfLessAndEq _ _ = compareOfLessAndEq _ _
    unfold compareOfLessAndEq
    have h1 : ((x + 1 : Nat) : Int) < ((y + 1 : Nat) : Int) ↔ (x : Int) < (y : Int) := by (first | lia | omega)
    have h2 : ((x + 1 : Nat) : Int) = ((y + 1 : Nat) : Int) ↔ (x : Int) = (y : Int) := by (first | lia | omega)
    simp only [h1, h2]
theorem cD_lawKey (t u : Tm) : cD (lawKey t) (lawKey u) = cD (keyD t) (keyD u) := by
  unfold lawKey keyD
  simp only [cD, cL]
  have e : ∀ w : Tm, (pre w).map (fun p => PyData.int ((p.ks.length + 1 : Nat) : Int)) = ((pre w).map fun p => p.ks.length).map fun (n : Nat) => PyData.int ((n + 1 : Nat) : Int) := fun w => by rw [List.map_map]; rfl
  have e' : ∀ w : Tm, (pre w).map (fun p => PyData.int (p.ks.length : Int)) = ((pre w).map fun p => p.ks.length).map fun (n : Nat) => PyData.int (n : Int) := fun w => by rw [List.map_map]; rfl
  rw [e, e, e', e', cL_shift]
theorem gd_lawKey (t : Tm) : gd (lawKey t) = true := by
  unfold lawKey
  simp only [gd, gdL, Bool.and_true, Bool.true_and]
  rw [gdL_map fun _ _ => rfl, gdL_map fun _ _ => rfl]; rfl
noncomputable def okPart (p : Tm) : Prop := bagT ops p = true → sortC (p.ks.map lawKey) = p.ks.map lawKey ∧ ∀ k ∈ p.ks, notBag ops p.op k
theorem asc_sortT (l : List Tm) : Asc ((sortT l).map lawKey) := by
  have h : Asc ((sortT l).map pairD) := by
    rw [← sortT_map]
    exact sortC_asc fun y hy => by
      obtain ⟨x, _, rfl⟩ := List.mem_map.mp hy; exact gd_pairD x
  unfold Asc at *
  rw [List.pairwise_map] at h ⊢
  refine h.imp fun {a b} q => ?_
  rw [cD_lawKey]
  intro e
  apply q
  unfold pairD
  simp only [cD, cL]
  rw [e]; rfl
theorem sort_id {l : List PyData} (g : ∀ x ∈ l, gd x = true) (h : Asc l) : sortC l = l :=
  asc_unique (fun x hx => g x ((sortC_perm l).mem_iff.mp hx)) (sortC_perm l) (sortC_asc g) h
theorem normal_ok (t : Tm) : ∀ p ∈ pre (normal ops t), okPart ops p := by
  induction t using strong with
  | h t ih =>
    intro p hp
    by_cases hb : bagT ops t = true
    · rw [normal_flat ops hb, pre, pres_eq] at hp
      rcases List.mem_cons.mp hp with rfl | hp
      · refine fun _ => ⟨?_, fun k hk => ?_⟩
        · exact sort_id (fun x hx => by obtain ⟨y, _, rfl⟩ := List.mem_map.mp hx; exact gd_lawKey y) (asc_sortT _)
        · obtain ⟨y, hy, rfl⟩ := List.mem_map.mp ((sortT_perm _).mem_iff.mp hk)
          exact normal_notBag ops (o := t.op) (flat_mem ops hb hy)
      · obtain ⟨k, hk, hp⟩ := List.mem_flatMap.mp hp
        obtain ⟨y, hy, rfl⟩ := List.mem_map.mp ((sortT_perm _).mem_iff.mp hk)
        exact ih y (flat_sz ops hb hy) p hp
    · have hb' := fun h => hb ((normal_bagT ops t).mp h)
      rw [normal_not ops hb] at hb' hp
      rw [pre, pres_eq] at hp
      rcases List.mem_cons.mp hp with rfl | hp
      · exact fun h => absurd h hb'
      · obtain ⟨k, hk, hp⟩ := List.mem_flatMap.mp hp
        obtain ⟨y, hy, rfl⟩ := List.mem_map.mp hk
        exact ih y (ks_sz hy) p hp

/-! two kids each -/
theorem chain_op {o : Str} : ∀ {l : List Tm}, 2 ≤ l.length → (chain o l).op = o ∧ (chain o l).ks.length = 2
  | [], h => by simp at h
  | [_], h => by simp at h
  | x :: y :: l, _ => ⟨rfl, rfl⟩
theorem nested_bag {t : Tm} (h : bagT ops t = true) : nested ops t = chain t.op (t.ks.map (nested ops)) := by
  cases t with | node o l =>
  rw [nested, if_pos (show bag ops o l = true from h), nesteds_eq]; rfl
theorem nested_not {t : Tm} (h : ¬ bagT ops t = true) : nested ops t = .node t.op (t.ks.map (nested ops)) := by
  cases t with | node o l =>
  rw [nested, if_neg (show ¬ bag ops o l = true from h), nesteds_eq]; rfl
theorem nested_op (t : Tm) : (nested ops t).op = t.op := by
  by_cases h : bagT ops t = true
  · rw [nested_bag ops h]; exact (chain_op (by rw [List.length_map]; exact bag_two ops h)).1
  · rw [nested_not ops h]; rfl
theorem nested_bagT (t : Tm) : bagT ops (nested ops t) = true ↔ bagT ops t = true := by
  by_cases h : bagT ops t = true
  · have h' := (bagT_iff ops).mp h
    refine ⟨fun _ => h, fun _ => (bagT_iff ops).mpr ⟨by rw [nested_op]; exact h'.1, ?_⟩⟩
    rw [nested_bag ops h, (chain_op (by rw [List.length_map]; exact bag_two ops h)).2]
    exact Nat.le_refl _
  · rw [bagT_iff, bagT_iff, nested_op]
    have : (nested ops t).ks.length = t.ks.length := by rw [nested_not ops h]; show (t.ks.map _).length = _; rw [List.length_map]
    rw [this]
theorem nested_notBag {o : Str} {t : Tm} (h : notBag ops o t) : notBag ops o (nested ops t) := fun e b => h (by rw [← nested_op ops t]; exact e) ((nested_bagT ops t).mp b)
theorem flat_chain {o : Str} (ho : ops.contains o = true) : ∀ {l : List Tm}, 1 ≤ l.length → sel ops o (chain o l) = l.flatMap (sel ops o)
  | [], h => by simp at h
  | [x], _ => by rw [chain, List.flatMap_cons]; simp
  | x :: y :: l, _ => by
    rw [chain, sel_bag ops (show bag ops o [x, chain o (y :: l)] = true from by unfold bag; rw [ho]; rfl), List.flatMap_cons, List.flatMap_cons, flat_chain ho (by simp), List.flatMap_nil, List.append_nil]
    rfl
theorem flatMap_map {f g : Tm → List Tm} {h : Tm → Tm} : ∀ {l : List Tm}, (∀ k ∈ l, f (h k) = (g k).map h) → (l.map h).flatMap f = (l.flatMap g).map h
  | [], _ => rfl
  | k :: l, p => by rw [List.map_cons, List.flatMap_cons, List.flatMap_cons, List.map_append, p k (.head _), flatMap_map fun x hx => p x (.tail _ hx)]
theorem sel_nested (o : Str) (t : Tm) : sel ops o (nested ops t) = (sel ops o t).map (nested ops) := by
  induction t using tmInd with
  | _ o' l ih =>
    by_cases h : notBag ops o (.node o' l)
    · rw [sel_not ops h, sel_not ops (nested_notBag ops h)]; rfl
    · unfold notBag at h
      simp only [Classical.not_imp, Classical.not_not] at h
      obtain ⟨h1, h2⟩ := h
      have h1 : o' = o := h1
      subst h1
      have h3 := (bagT_iff ops).mp h2
      rw [sel_bag ops (show bag ops o' l = true from h2), nested_bag ops h2]
      show sel ops o' (chain o' (l.map (nested ops))) = _
      rw [flat_chain ops (o := o') h3.1 (by rw [List.length_map]; exact Nat.le_trans (by decide) h3.2)]
      exact flatMap_map fun k hk => ih k hk
theorem flat_nested {t : Tm} (h : bagT ops t = true) : flat ops (nested ops t) = (flat ops t).map (nested ops) := by
  have e := sel_nested ops t.op t
  unfold sel at e
  rw [if_pos (nested_op ops t), if_pos rfl] at e
  exact e
theorem counted_nested (t : Tm) : counted ops (nested ops t) = counted ops t := by
  induction t using strong with
  | h t ih =>
    by_cases hb : bagT ops t = true
    · rw [counted_bag ops ((nested_bagT ops t).mpr hb), counted_bag ops hb, flat_nested ops hb, nested_op, List.map_map]
      congr 4
      exact List.map_congr_left fun x hx => ih x (flat_sz ops hb hx)
    · rw [counted_not ops (fun h => hb ((nested_bagT ops t).mp h)), counted_not ops hb, nested_op]
      congr 3
      rw [nested_not ops hb]
      show (t.ks.map (nested ops)).map (counted ops) = _
      rw [List.map_map]
      exact List.map_congr_left fun x hx => ih x (ks_sz hx)
theorem chain_parts {o : Str} {Q : Tm → Prop} (hQ : ∀ x y, Q x → Q (.node o [x, y])) (hq : ∀ y x, Q x → Q (.node o [x, y])) {R : Tm → Prop} : ∀ {l : List Tm}, 1 ≤ l.length → (∀ x ∈ l, ∀ p ∈ pre x, R p) → (∀ x ∈ l, ∀ y, R (.node o [x, y])) → ∀ p ∈ pre (chain o l), R p
  | [], h, _, _ => by simp at h
  | [x], _, h1, _ => h1 x (.head _)
  | x :: y :: l, _, h1, h2 => by
    intro p hp
    rw [chain, pre, pres, pres, pres] at hp
    rcases List.mem_cons.mp hp with rfl | hp
    · exact h2 x (.head _) _
    · rcases List.mem_append.mp hp with hp | hp
      · exact h1 x (.head _) p hp
      · rw [List.append_nil] at hp
        exact chain_parts hQ hq (by simp) (fun z hz => h1 z (.tail _ hz)) (fun z hz => h2 z (.tail _ hz)) p hp
theorem nested_two (t : Tm) : ∀ p ∈ pre (nested ops t), ops.contains p.op = true → p.ks.length ≤ 2 := by
  induction t using tmInd with
  | _ o l ih =>
    intro p hp
    by_cases hb : bagT ops (.node o l) = true
    · rw [nested_bag ops hb] at hp
      refine chain_parts (Q := fun _ => True) (fun _ _ _ => trivial) (fun _ _ _ => trivial) (R := fun p => ops.contains p.op = true → p.ks.length ≤ 2) ?_ (fun x hx q hq => ?_) (fun x _ y _ => Nat.le_refl _) p hp
      · rw [List.length_map]; exact Nat.le_trans (by decide) (bag_two ops hb)
      · obtain ⟨k, hk, rfl⟩ := List.mem_map.mp hx
        exact ih k hk q hq
    · rw [nested_not ops hb, pre, pres_eq] at hp
      rcases List.mem_cons.mp hp with rfl | hp
      · intro ho
        have : ¬ 2 ≤ l.length := fun h2 => hb ((bagT_iff ops).mpr ⟨ho, h2⟩)
        show (l.map (nested ops)).length ≤ 2
        rw [List.length_map]; (first | lia | omega)
      · obtain ⟨k, hk, hp⟩ := List.mem_flatMap.mp hp
        obtain ⟨y, hy, rfl⟩ := List.mem_map.mp hk
        exact ih y hy p hp
theorem nested_left (t : Tm) (h : ∀ p ∈ pre t, okPart ops p) : ∀ p ∈ pre (nested ops t), ops.contains p.op = true → p.ks.length = 2 → ∀ x y, p.ks = [x, y] → x.op = p.op → ¬ 2 ≤ x.ks.length := by
  induction t using tmInd with
  | _ o l ih =>
    intro p hp
    by_cases hb : bagT ops (.node o l) = true
    · have hb2 := (bagT_iff ops).mp hb
      rw [nested_bag ops hb] at hp
      refine chain_parts (Q := fun _ => True) (fun _ _ _ => trivial) (fun _ _ _ => trivial) (R := fun p => ops.contains p.op = true → p.ks.length = 2 → ∀ x y, p.ks = [x, y] → x.op = p.op → ¬ 2 ≤ x.ks.length) ?_ (fun x hx q hq => ?_) (fun x hx y _ _ a b e ho h2 => ?_) p hp
      · rw [List.length_map]; exact Nat.le_trans (by decide) (bag_two ops hb)
      · obtain ⟨k, hk, rfl⟩ := List.mem_map.mp hx
        exact ih k hk (fun p hp => h p (pre_kid hk hp)) q hq
      · obtain ⟨k, hk, rfl⟩ := List.mem_map.mp hx
        have e : nested ops k = a := by
          have : [nested ops k, y] = [a, b] := e
          simp only [List.cons.injEq] at this
          exact this.1
        subst e
        have nk := nested_notBag ops ((h _ (pre_self _) hb).2 k hk)
        exact nk ho ((bagT_iff ops).mpr ⟨by rw [ho]; exact hb2.1, h2⟩)
    · rw [nested_not ops hb, pre, pres_eq] at hp
      rcases List.mem_cons.mp hp with rfl | hp
      · intro ho h2
        have : ¬ 2 ≤ l.length := fun h2 => hb ((bagT_iff ops).mpr ⟨ho, h2⟩)
        have h2 : (l.map (nested ops)).length = 2 := h2
        rw [List.length_map] at h2; (first | lia | omega)
      · obtain ⟨k, hk, hp⟩ := List.mem_flatMap.mp hp
        obtain ⟨y, hy, rfl⟩ := List.mem_map.mp hk
        exact ih y hy (fun p hp => h p (pre_kid hy hp)) p hp
end
end Mine

namespace Mine
open PySem PySem.W PyProof.Rows PySem.Calls
noncomputable def tS (i : Nat) : Stmt := PySem.Challenge.pw_pq0116_01.main.body.getD i (.Pass default)
noncomputable def mS (i : Nat) : Stmt := match tS 6 with
  | .ClassDef (body := b) .. => b.getD i (.Pass default)
  | _ => .Pass default
noncomputable def fObj (s : Stmt) (q pm : String) (pt cd : Nat) : Obj := match s with
  | .FunctionDef (name := n) (args := ps) (body := b) (scope := sc) .. => { cls := .type "function", data := .func { name := n, qualname := Str.ofString q, params := ps, body := .stmts b, scope := sc, globals := 3, closure := [], defaults := .none, kwdefaults := .none, pyModule := .str (Str.ofString pm) pt, code := .ref cd } }
  | _ => default
noncomputable def cObj (n q : String) (t line na a b : Nat) (c d : Value) (e i u : Nat) : Obj :=
  { cls := .type "code", data := .fields #[.str (Str.ofString n) t, .str (Str.ofString q) (t + 1), .str (Str.ofString "/claim/cut.py") (t + 2), .int line 0, .int na 0, .int 0 0, .int 0 0, .int 3 0, .ref a, .bool true, .int 181 0, .ref b, .none, c, d, .ref e, .int i 0, .int line 0, .str (Str.ofString "/claim/cut.py") u] }
noncomputable def nE (P : Params) (x : String) (t : Nat) (v : Value) : DictEntry := { hash := PyData.keyHash P (Str.ofString x), key := .str (Str.ofString x) t, val := v }
noncomputable def viewQ : Program := { PySem.Challenge.pw_pq0116_01 with main := { PySem.Challenge.pw_pq0116_01.main with body := [tS 0, tS 2, tS 3, tS 5, tS 6, tS 8, tS 9, tS 10, tS 11, tS 12, tS 13, tS 14, tS 15, tS 16, tS 17, tS 18, tS 19] } }
noncomputable def heapK (P : Params) : Frag := [
  (3, { cls := .type "dict", data := .dict #[nE P "__name__" 165 (.str (Str.ofString "law_pq0116_01") 345), nE P "__doc__" 166 (.none), nE P "__package__" 167 (.none), nE P "__loader__" 168 (.builtin "__main__.__loader__#opaque"), nE P "__spec__" 169 (.none), nE P "__annotations__" 170 (.ref 6), nE P "__builtins__" 171 (.ref 4), nE P "__file__" 173 (.str (Str.ofString "/claim/cut.py") 172), nE P "__cached__" 174 (.none), nE P "_wall" 193 (.ref 21), nE P "parts" 201 (.ref 26), nE P "key_of" 207 (.ref 31), nE P "in_order_of" 215 (.ref 36), nE P "Bags" 344 (.ref 129), nE P "_law_leaves" 351 (.ref 138), nE P "_law_next" 360 (.ref 145), nE P "_law_term" 372 (.ref 152), nE P "_law_moved" 378 (.ref 157), nE P "_law_bent" 385 (.ref 164), nE P "_law_flat" 391 (.ref 169), nE P "_law_flat_by" 400 (.ref 176), nE P "_law_counted" 406 (.ref 181), nE P "_law_all" 415 (.ref 188), nE P "_law_key" 421 (.ref 193), nE P "_law_is_normal" 427 (.ref 198), nE P "law" 433 (.ref 203)] 26 }),
  (25, cObj "parts" "parts" 196 5 1 22 23 .none .none 24 199 200),
  (26, fObj (tS 2) "parts" "alikeheap.terms" 194 25),
  (30, cObj "key_of" "key_of" 202 10 1 27 28 .none .none 29 205 206),
  (31, fObj (tS 3) "key_of" "alikeheap.terms" 194 30),
  (35, cObj "in_order_of" "in_order_of" 210 14 1 32 33 .none .none 34 213 214),
  (36, fObj (tS 5) "in_order_of" "alikeheap.bags" 208 35),
  (49, cObj "__init__" "Bags.__init__" 228 18 2 44 45 (.ref 46) (.ref 47) 48 233 234),
  (50, fObj (mS 0) "Bags.__init__" "alikeheap.bags" 208 49),
  (56, cObj "is_bag" "Bags.is_bag" 236 21 2 51 52 (.ref 53) (.ref 54) 55 241 242),
  (57, fObj (mS 1) "Bags.is_bag" "alikeheap.bags" 208 56),
  (61, cObj "kids" "Bags.kids" 244 24 3 58 59 .none .none 60 247 248),
  (62, fObj (mS 2) "Bags.kids" "alikeheap.bags" 208 61),
  (66, cObj "made" "Bags.made" 250 29 3 63 64 .none .none 65 253 254),
  (67, fObj (mS 3) "Bags.made" "alikeheap.bags" 208 66),
  (71, cObj "normal" "Bags.normal" 256 33 2 68 69 .none .none 70 259 260),
  (72, fObj (mS 4) "Bags.normal" "alikeheap.bags" 208 71),
  (78, cObj "are_like" "Bags.are_like" 262 37 3 73 74 (.ref 75) (.ref 76) 77 268 269),
  (79, fObj (mS 5) "Bags.are_like" "alikeheap.bags" 208 78),
  (83, cObj "nested" "Bags.nested" 271 40 2 80 81 .none .none 82 274 275),
  (84, fObj (mS 6) "Bags.nested" "alikeheap.bags" 208 83),
  (128, { cls := .type "dict", data := .dict #[nE P "__module__" 223 (.str (Str.ofString "alikeheap.bags") 208), nE P "__firstlineno__" 227 (.int 16 226), nE P "__init__" 235 (.ref 50), nE P "is_bag" 243 (.ref 57), nE P "kids" 249 (.ref 62), nE P "made" 255 (.ref 67), nE P "normal" 261 (.ref 72), nE P "are_like" 270 (.ref 79), nE P "nested" 276 (.ref 84), nE P "extended" 286 (.ref 91), nE P "shared_out" 297 (.ref 98), nE P "taken" 308 (.ref 105), nE P "matched" 317 (.ref 112), nE P "at_top" 326 (.ref 119), nE P "once" 335 (.ref 126), nE P "__static_attributes__" 337 (.ref 127), nE P "__dict__" 339 (.ref 130), nE P "__weakref__" 341 (.ref 131), nE P "__doc__" 342 (.none)] 4 }),
  (129, { cls := .type "type", data := .cls { name := Str.ofString "Bags", bases := [.type "object"], mro := [.ref 129, .type "object"], ns := 128, qualname := Str.ofString "Bags" }, slots := #[none, none, some (.str (Str.ofString "Bags") 216), some (.str (Str.ofString "Bags") 224), some (.builtin "object.__new__"), some (.bool true)] }),
  (134, { cls := .type "tuple", data := .seq #[.str (Str.ofString "a") 347] }),
  (135, { cls := .type "tuple", data := .seq #[.str (Str.ofString "b") 348] }),
  (136, { cls := .type "tuple", data := .seq #[.str (Str.ofString "?x") 349] }),
  (137, { cls := .type "tuple", data := .seq #[.str (Str.ofString "s") 350] }),
  (138, { cls := .type "tuple", data := .seq #[.ref 134, .ref 135, .ref 136, .ref 137] }),
  (144, cObj "_law_next" "_law_next" 352 68 2 139 140 (.ref 141) (.ref 142) 143 358 359),
  (145, fObj (tS 9) "_law_next" "law_pq0116_01" 345 144),
  (151, cObj "_law_term" "_law_term" 361 74 2 146 147 (.ref 148) (.ref 149) 150 370 371),
  (152, fObj (tS 10) "_law_term" "law_pq0116_01" 345 151),
  (156, cObj "_law_moved" "_law_moved" 373 86 2 153 154 .none .none 155 376 377),
  (157, fObj (tS 11) "_law_moved" "law_pq0116_01" 345 156),
  (163, cObj "_law_bent" "_law_bent" 379 97 1 158 159 (.ref 160) (.ref 161) 162 383 384),
  (164, fObj (tS 12) "_law_bent" "law_pq0116_01" 345 163),
  (168, cObj "_law_flat" "_law_flat" 386 101 2 165 166 .none .none 167 389 390),
  (169, fObj (tS 13) "_law_flat" "law_pq0116_01" 345 168),
  (175, cObj "_law_flat_by" "_law_flat_by" 392 105 3 170 171 (.ref 172) (.ref 173) 174 398 399),
  (176, fObj (tS 14) "_law_flat_by" "law_pq0116_01" 345 175),
  (180, cObj "_law_counted" "_law_counted" 401 107 2 177 178 .none .none 179 404 405),
  (181, fObj (tS 15) "_law_counted" "law_pq0116_01" 345 180),
  (187, cObj "_law_all" "_law_all" 407 112 1 182 183 (.ref 184) (.ref 185) 186 413 414),
  (188, fObj (tS 16) "_law_all" "law_pq0116_01" 345 187),
  (192, cObj "_law_key" "_law_key" 416 117 1 189 190 .none .none 191 419 420),
  (193, fObj (tS 17) "_law_key" "law_pq0116_01" 345 192),
  (197, cObj "_law_is_normal" "_law_is_normal" 422 120 2 194 195 .none .none 196 425 426),
  (198, fObj (tS 18) "_law_is_normal" "law_pq0116_01" 345 197),
  (202, cObj "law" "law" 428 127 1 199 200 .none .none 201 431 432),
  (203, fObj (tS 19) "law" "law_pq0116_01" 345 202)]
noncomputable def addrs : List Addr := [3, 25, 26, 30, 31, 35, 36, 49, 50, 56, 57, 61, 62, 66, 67, 71, 72, 78, 79, 83, 84, 128, 129, 134, 135, 136, 137, 138, 144, 145, 151, 152, 156, 157, 163, 164, 168, 169, 175, 176, 180, 181, 187, 188, 192, 193, 197, 198, 202, 203]
noncomputable abbrev hook : Hook := kHook heapK addrs (fun _ => by kernel_rfl)
set_option maxRecDepth 100000 in
theorem left : LeftO PySem.Challenge.rw_pq0116_01.row.prog viewQ [] (fun s => xlAt viewQ [] s && recOk (RowW.records PySem.Challenge.rw_pq0116_01.row.toRowW) s) (Hook.obs hook) (Hook.val hook) 2266 := fun w => by kernel_rfl
end Mine

noncomputable section
namespace Mine
open PySem PySem.W PyProof.Rows PySem.Calls

noncomputable def adr : Nat → Addr
  | 0 => 26 | 1 => 31 | 2 => 36 | 3 => 57 | 4 => 62 | 5 => 67 | 6 => 72 | 7 => 79 | 8 => 84 | 9 => 145 | 10 => 152 | 11 => 157 | 12 => 164 | 13 => 169 | 14 => 176 | 15 => 181 | 16 => 188 | 17 => 193 | _ => 198
noncomputable def gOf (prog : Program) (w : World) (h₀ : Heap) (c : Addr) (mg mb : Str → Option Value) : Cfg := ⟨prog, w, h₀, c, 129, heapK w.params, mg, mb⟩
noncomputable def nm (l : List String) : List (Str × Nat) := (l.map Str.ofString).zipIdx
noncomputable def t1 (x : String) : PyData := .tuple [.str (Str.ofString x)]
noncomputable def leaves : PyData := .tuple [t1 "a", t1 "b", t1 "?x", t1 "s"]
noncomputable def gloF : Nat → Option PyData := fun _ => none
noncomputable abbrev Call (f : Nat) (es : List E) : E := .call f (es.foldr .cons .nil)
noncomputable abbrev Meth (f : Nat) (e : E) (es : List E) : E := .meth f e (es.foldr .cons .nil)
noncomputable abbrev Tup (es : List E) : E := .tup (es.foldr .cons .nil)
noncomputable abbrev Lst (es : List E) : E := .lst (es.foldr .cons .nil)
noncomputable abbrev L := E.loc
noncomputable abbrev I (i : Int) : E := .lit (.int i)
noncomputable abbrev Sx (x : String) : E := .lit (.str (Str.ofString x))
noncomputable abbrev yes : E := .lit (.bool true)
theorem leaves_is {w : World} {h : Heap} (X : (heapK w.params).In h) : Is h (.ref 138) leaves :=
  Is.tuple (X 138 _ rfl) rfl rfl (.cons (Is.tuple (X 134 _ rfl) rfl rfl (.cons .str .nil)) (.cons (Is.tuple (X 135 _ rfl) rfl rfl (.cons .str .nil)) (.cons (Is.tuple (X 136 _ rfl) rfl rfl (.cons .str .nil)) (.cons (Is.tuple (X 137 _ rfl) rfl rfl (.cons .str .nil)) .nil))))
theorem leavesE {prog : Program} {w : World} {h₀ : Heap} {c : Addr} {mg mb : Str → Option Value} {R : Nat → List V → Sg → Option (V × Sg)} {n : Nat} (hW : (Wd.mk (gOf prog w h₀ c mg mb) adr gloF R n).Ok) {cx : Cx} {pos : Pos} (hk : cx.kindOf "_law_leaves" = some .globalImplicit) :
    SndE ⟨gOf prog w h₀ c mg mb, adr, gloF, R, n⟩ cx (.Name "_law_leaves" pos) (.lit leaves) :=
  SndE.glob hW hk (v := .ref 138) (by kernel_rfl) (leaves_is hW.glb.kin)

noncomputable def Tparts : List (Str × Nat) := nm ["t", "found", "k", "kid", "path", "part"]
noncomputable def Fparts : FnM := ⟨1, 5, .new 1 (.cons (Tup [Tup [], L 0]) .nil) <| .forS (.two 2 3) (.enum (.slc .from1 (L 0))) (.ext 1 (.comp (Tup [.bin .add (Tup [L 2]) (L 4), L 5]) (.two 4 5) (Call 0 [L 3]) yes) .nop) <| .frz 1 <| .ret (L 1)⟩
noncomputable def TkeyOf : List (Str × Nat) := nm ["t", "some", "path", "part"]
noncomputable def FkeyOf : FnM := ⟨1, 3, .asg 1 (.comp (L 3) (.two 2 3) (Call 0 [L 0]) yes) <| .ret (Tup [.bi .len (L 1), .bi .tuple (.comp (.item (L 3) (I 0)) (.one 3) (L 1) yes), .bi .tuple (.comp (.bin .sub (.bi .len (L 3)) (I 1)) (.one 3) (L 1) yes)])⟩
noncomputable def TinOrd : List (Str × Nat) := nm ["terms", "t", "key"]
noncomputable def FinOrd : FnM := ⟨1, 2, .ret (.bi .tuple (.comp (L 1) (.two 2 1) (.bi .sorted (.comp (Tup [Call 1 [L 1], L 1]) (.one 1) (L 0) yes)) yes))⟩
noncomputable def TisBag : List (Str × Nat) := nm ["self", "t"]
noncomputable def FisBag : FnM := ⟨2, 0, .ret (.andE (.cmp .isIn (.item (L 1) (I 0)) (.ops (L 0))) (.cmp .gt (.bi .len (L 1)) (I 2)))⟩
noncomputable def Tkids : List (Str × Nat) := nm ["self", "op", "t", "kid", "late"]
noncomputable def Fkids : FnM := ⟨3, 2, .ifS (.orE (.cmp .ne (.item (L 2) (I 0)) (L 1)) (.notE (Meth 3 (L 0) [L 2]))) (.ret (Tup [L 2])) .nop <| .ret (.bi .tuple (.comp2 (L 4) (.one 3) (.slc .from1 (L 2)) (.one 4) (Meth 4 (L 0) [L 1, L 3])))⟩
noncomputable def Tmade : List (Str × Nat) := nm ["self", "op", "some", "late", "t", "kid"]
noncomputable def Fmade : FnM := ⟨3, 3, .asg 3 (Call 2 [.comp2 (L 5) (.one 4) (L 2) (.one 5) (Meth 4 (L 0) [L 1, L 4])]) <| .ret (.ite (.cmp .eq (.bi .len (L 3)) (I 1)) (.item (L 3) (I 0)) (.bin .add (Tup [L 1]) (L 3)))⟩
noncomputable def Tnormal : List (Str × Nat) := nm ["self", "t", "some", "kid"]
noncomputable def Fnormal : FnM := ⟨2, 2, .asg 2 (.comp (Meth 6 (L 0) [L 3]) (.one 3) (.slc .from1 (L 1)) yes) <| .ret (.ite (Meth 3 (L 0) [L 1]) (Meth 5 (L 0) [.item (L 1) (I 0), L 2]) (.bin .add (Tup [.item (L 1) (I 0)]) (.bi .tuple (L 2))))⟩
noncomputable def TareLike : List (Str × Nat) := nm ["self", "t", "u"]
noncomputable def FareLike : FnM := ⟨3, 0, .ret (.cmp .eq (Meth 6 (L 0) [L 1]) (Meth 6 (L 0) [L 2]))⟩
noncomputable def Tnested : List (Str × Nat) := nm ["self", "t", "some", "kid", "late"]
noncomputable def Fnested : FnM := ⟨2, 3, .asg 2 (.comp (Meth 8 (L 0) [L 3]) (.one 3) (.slc .from1 (L 1)) yes) <| .ifS (.notE (Meth 3 (L 0) [L 1])) (.ret (.bin .add (Tup [.item (L 1) (I 0)]) (.bi .tuple (L 2)))) .nop <| .asg 4 (.item (L 2) (I (-1))) <| .forS (.one 3) (.slc .revFrom2 (L 2)) (.asg 4 (Tup [.item (L 1) (I 0), L 3, L 4]) .nop) <| .ret (L 4)⟩
noncomputable def Tnext : List (Str × Nat) := nm ["feed", "wide", "spot"]
noncomputable def Fnext : FnM := ⟨2, 1, .asg 2 (.item (L 0) (Sx "spot")) <| .fset 0 (Str.ofString "spot") (.bin .add (L 2) (I 1)) <| .ifS (.cmp .lt (L 2) (.bi .len (.item (L 0) (Sx "cells")))) (.ret (.bin .mod (.item (.item (L 0) (Sx "cells")) (L 2)) (L 1))) .nop <| .ret (.bin .mod (.bin .mod (.bin .add (.bin .add (.bin .add (.bin .mul (.bin .mul (I 8) (L 2)) (L 2)) (.bin .mul (I 3) (L 2))) (I 5)) (.bin .mul (I 2) (.bi .len (.item (L 0) (Sx "cells"))))) (I 101)) (L 1))⟩
noncomputable def Tterm : List (Str × Nat) := nm ["feed", "deep", "way", "one", "other", "late"]
noncomputable def Fterm : FnM := ⟨2, 4, .asg 2 (.ite (.cmp .gt (L 1) (I 0)) (Call 9 [L 0, I 8]) (I 0)) <| .ifS (.cmp .lt (L 2) (I 2)) (.ret (.item (.lit leaves) (Call 9 [L 0, I 4]))) .nop <| .asg 3 (Call 10 [L 0, .bin .sub (L 1) (I 1)]) <| .ifS (.cmp .eq (L 2) (I 2)) (.ret (Tup [.item (Tup [Sx "f", Sx "s"]) (Call 9 [L 0, I 2]), L 3])) .nop <| .asg 4 (Call 10 [L 0, .bin .sub (L 1) (I 1)]) <| .ifS (.cmp .eq (L 2) (I 3)) (.ret (Tup [Sx "g", L 3, L 4])) .nop <| .asg 5 (.ite (.andE (.cmp .gt (L 2) (I 5)) (.cmp .lt (L 1) (I 3))) (Tup [Call 10 [L 0, .bin .sub (L 1) (I 1)]]) (Tup [])) <| .ret (.bin .add (Tup [.ite (.cmp .eq (.bin .mod (L 2) (I 2)) (I 0)) (Sx "s") (Sx "p"), L 3, L 4]) (L 5))⟩
noncomputable def Tmoved : List (Str × Nat) := nm ["feed", "t", "kids", "kid"]
noncomputable def Fmoved : FnM := ⟨2, 2, .asg 2 (.comp (Call 11 [L 0, L 3]) (.one 3) (.slc .from1 (L 1)) yes) <| .ifS (.orE (.cmp .notIn (.item (L 1) (I 0)) (Tup [Sx "s", Sx "p"])) (.cmp .lt (.bi .len (L 2)) (I 2))) (.ret (.bin .add (Tup [.item (L 1) (I 0)]) (.bi .tuple (L 2)))) .nop <| .ifS (.cmp .eq (Call 9 [L 0, I 2]) (I 0)) (.asg 2 (.bin .add (.slc .from1 (L 2)) (.slc (.upto 1) (L 2))) .nop) .nop <| .ifS (.andE (.cmp .eq (.bi .len (L 2)) (I 3)) (.cmp .eq (Call 9 [L 0, I 2]) (I 0))) (.asg 2 (Lst [.item (L 2) (I 0), Tup [.item (L 1) (I 0), .item (L 2) (I 1), .item (L 2) (I 2)]]) .nop) (.ifS (.andE (.cmp .gt (.bi .len (.item (L 2) (I 0))) (I 2)) (.cmp .eq (.item (.item (L 2) (I 0)) (I 0)) (.item (L 1) (I 0)))) (.asg 2 (.bin .add (.bi .list (.slc .from1 (.item (L 2) (I 0)))) (.slc .from1 (L 2))) .nop) .nop .nop) <| .ret (.bin .add (Tup [.item (L 1) (I 0)]) (.bi .tuple (L 2)))⟩
noncomputable def Tbent : List (Str × Nat) := nm ["t"]
noncomputable def Fbent : FnM := ⟨1, 0, .ifS (.cmp .eq (.bi .len (L 0)) (I 1)) (.ret (.ite (.cmp .eq (L 0) (Tup [Sx "a"])) (Tup [Sx "b"]) (Tup [Sx "a"]))) .nop <| .ret (.bin .add (.slc .butLast (L 0)) (Tup [Call 12 [.item (L 0) (I (-1))]]))⟩
noncomputable def Tflat : List (Str × Nat) := nm ["ops", "t", "kid", "late"]
noncomputable def Fflat : FnM := ⟨2, 2, .ifS (.orE (.cmp .notIn (.item (L 1) (I 0)) (L 0)) (.cmp .lt (.bi .len (L 1)) (I 3))) (.ret (Lst [L 1])) .nop <| .ret (.comp2 (L 3) (.one 2) (.slc .from1 (L 1)) (.one 3) (Call 14 [L 0, .item (L 1) (I 0), L 2]))⟩
noncomputable def TflatBy : List (Str × Nat) := nm ["ops", "op", "t"]
noncomputable def FflatBy : FnM := ⟨3, 0, .ret (.ite (.cmp .eq (.item (L 2) (I 0)) (L 1)) (Call 13 [L 0, L 2]) (Lst [L 2]))⟩
noncomputable def Tcounted : List (Str × Nat) := nm ["ops", "t", "some", "kid"]
noncomputable def Fcounted : FnM := ⟨2, 2, .asg 2 (Call 13 [L 0, L 1]) <| .ifS (.cmp .eq (L 2) (Lst [L 1])) (.ret (.bin .add (.bin .add (.bin .add (Sx "(") (.item (L 1) (I 0))) (.bi .join (.comp (Call 15 [L 0, L 3]) (.one 3) (.slc .from1 (L 1)) yes))) (Sx ")"))) .nop <| .ret (.bin .add (.bin .add (.bin .add (Sx "{") (.item (L 1) (I 0))) (.bi .join (.bi .sorted (.comp (Call 15 [L 0, L 3]) (.one 3) (L 2) yes)))) (Sx "}"))⟩
noncomputable def Tall : List (Str × Nat) := nm ["t", "found", "kid"]
noncomputable def Fall : FnM := ⟨1, 2, .asg 1 (Lst [L 0]) <| .forS (.one 2) (.slc .from1 (L 0)) (.asg 1 (.bin .add (L 1) (Call 16 [L 2])) .nop) <| .ret (L 1)⟩
noncomputable def Tkey : List (Str × Nat) := nm ["t", "some", "part"]
noncomputable def Fkey : FnM := ⟨1, 2, .asg 1 (Call 16 [L 0]) <| .ret (Tup [.bi .len (L 1), .comp (.item (L 2) (I 0)) (.one 2) (L 1) yes, .comp (.bi .len (L 2)) (.one 2) (L 1) yes])⟩
noncomputable def TisNormal : List (Str × Nat) := nm ["ops", "t", "part", "keys", "kid"]
noncomputable def FisNormal : FnM := ⟨2, 3, .forS (.one 2) (Call 16 [L 1]) (.ifS (.andE (.cmp .isIn (.item (L 2) (I 0)) (L 0)) (.cmp .gt (.bi .len (L 2)) (I 2))) (.asg 3 (.comp (Call 17 [L 4]) (.one 4) (.slc .from1 (L 2)) yes) <| .ifS (.orE (.cmp .ne (L 3) (.bi .sorted (L 3))) (.cmp .ne (.comp (L 4) (.one 4) (.slc .from1 (L 2)) (.andE (.cmp .eq (.item (L 4) (I 0)) (.item (L 2) (I 0))) (.cmp .gt (.bi .len (L 4)) (I 2)))) (Lst []))) (.ret (.lit (.bool false))) .nop .nop) .nop .nop) <| .ret (.lit (.bool true))⟩
noncomputable def fnT : Nat → Option FnM
  | 0 => some Fparts
  | 1 => some FkeyOf
  | 2 => some FinOrd
  | 3 => some FisBag
  | 4 => some Fkids
  | 5 => some Fmade
  | 6 => some Fnormal
  | 7 => some FareLike
  | 8 => some Fnested
  | 9 => some Fnext
  | 10 => some Fterm
  | 11 => some Fmoved
  | 12 => some Fbent
  | 13 => some Fflat
  | 14 => some FflatBy
  | 15 => some Fcounted
  | 16 => some Fall
  | 17 => some Fkey
  | 18 => some FisNormal
  | _ => none
section
variable {prog : Program} {w : World} {h₀ : Heap} {c : Addr} {mg mb : Str → Option Value} {R : Nat → List V → Sg → Option (V × Sg)} {n : Nat}
theorem parts_is : FnIs (gOf prog w h₀ c mg mb) 26 (fdOf (heapK w.params) 26) (bodyOf (heapK w.params) 26) (mkCx Tparts (scOf (heapK w.params) 26)) ["t"] Fparts :=
  FnIs.of (G := gOf prog w h₀ c mg mb) (by kernel_rfl) (vals1 fun a => by kernel_rfl)
set_option maxRecDepth 20000 in
theorem parts_S (hW : (Wd.mk (gOf prog w h₀ c mg mb) adr gloF R n).Ok) (hB : BagOk (gOf prog w h₀ c mg mb)) : SndS ⟨gOf prog w h₀ c mg mb, adr, gloF, R, n⟩ (mkCx Tparts (scOf (heapK w.params) 26)) (bodyOf (heapK w.params) 26) Fparts.body := by
  have hLv := @leavesE prog w h₀ c mg mb R n hW
  obtain ⟨b, hb⟩ : ∃ b, bodyOf (heapK w.params) 26 = b := ⟨_, rfl⟩
  obtain ⟨sc, hsc⟩ : ∃ sc, scOf (heapK w.params) 26 = sc := ⟨_, rfl⟩
  rw [hb, hsc]
  conv at hb => lhs; whnf
  conv at hsc => lhs; whnf
  subst hb hsc
  exact (SndS.new (asgB_of (by kernel_rfl)) (SndEs.cons (SndE.tup (SndEs.cons (SndE.tup SndEs.nil) (SndEs.cons (SndE.var (by kernel_rfl) (by kernel_rfl)) SndEs.nil))) SndEs.nil) (SndS.forS (SndI.enum hW (by kernel_rfl) (by kernel_rfl) (SndE.slc _ (SndE.var (by kernel_rfl) (by kernel_rfl)) (by constructor) (by constructor) (by constructor))) (tgt_two (by kernel_rfl) (by kernel_rfl)) (SndS.ext (by kernel_rfl) (by kernel_rfl) (SndE.comp (comp0 (SndI.seq (SndE.call hW (by kernel_rfl) (by kernel_rfl) (by kernel_rfl) (SndEs.cons (SndE.var (by kernel_rfl) (by kernel_rfl)) SndEs.nil))) (by kernel_rfl) (tgt_two (by kernel_rfl) (by kernel_rfl)) (SndE.tup (SndEs.cons (SndE.bin (SndE.tup (SndEs.cons (SndE.var (by kernel_rfl) (by kernel_rfl)) SndEs.nil)) (SndE.var (by kernel_rfl) (by kernel_rfl))) (SndEs.cons (SndE.var (by kernel_rfl) (by kernel_rfl)) SndEs.nil))))) SndS.nil) (SndS.frz (x := "found") (by kernel_rfl) (by kernel_rfl) (SndS.ret (SndE.var (by kernel_rfl) (by kernel_rfl)))) (by intro _ _; rfl) (allVarB_of (by kernel_rfl))))

theorem keyOf_is : FnIs (gOf prog w h₀ c mg mb) 31 (fdOf (heapK w.params) 31) (bodyOf (heapK w.params) 31) (mkCx TkeyOf (scOf (heapK w.params) 31)) ["t"] FkeyOf :=
  FnIs.of (G := gOf prog w h₀ c mg mb) (by kernel_rfl) (vals1 fun a => by kernel_rfl)
set_option maxRecDepth 20000 in
theorem keyOf_S (hW : (Wd.mk (gOf prog w h₀ c mg mb) adr gloF R n).Ok) (hB : BagOk (gOf prog w h₀ c mg mb)) : SndS ⟨gOf prog w h₀ c mg mb, adr, gloF, R, n⟩ (mkCx TkeyOf (scOf (heapK w.params) 31)) (bodyOf (heapK w.params) 31) FkeyOf.body := by
  have hLv := @leavesE prog w h₀ c mg mb R n hW
  obtain ⟨b, hb⟩ : ∃ b, bodyOf (heapK w.params) 31 = b := ⟨_, rfl⟩
  obtain ⟨sc, hsc⟩ : ∃ sc, scOf (heapK w.params) 31 = sc := ⟨_, rfl⟩
  rw [hb, hsc]
  conv at hb => lhs; whnf
  conv at hsc => lhs; whnf
  subst hb hsc
  exact (SndS.asgU (asgB_of (by kernel_rfl)) (comp0 (SndI.seq (SndE.call hW (by kernel_rfl) (by kernel_rfl) (by kernel_rfl) (SndEs.cons (SndE.var (by kernel_rfl) (by kernel_rfl)) SndEs.nil))) (by kernel_rfl) (tgt_two (by kernel_rfl) (by kernel_rfl)) (SndE.var (by kernel_rfl) (by kernel_rfl))) (SndS.ret (SndE.tup (SndEs.cons (SndE.bi hW rfl (by kernel_rfl) (by kernel_rfl) (by kernel_rfl) (SndE.var (by kernel_rfl) (by kernel_rfl))) (SndEs.cons (SndE.bi hW rfl (by kernel_rfl) (by kernel_rfl) (by kernel_rfl) (SndE.comp (comp0 (SndI.seq (SndE.var (by kernel_rfl) (by kernel_rfl))) (by kernel_rfl) (tgt_one (by kernel_rfl)) (SndE.item (SndE.var (by kernel_rfl) (by kernel_rfl)) SndE.int)))) (SndEs.cons (SndE.bi hW rfl (by kernel_rfl) (by kernel_rfl) (by kernel_rfl) (SndE.comp (comp0 (SndI.seq (SndE.var (by kernel_rfl) (by kernel_rfl))) (by kernel_rfl) (tgt_one (by kernel_rfl)) (SndE.bin (SndE.bi hW rfl (by kernel_rfl) (by kernel_rfl) (by kernel_rfl) (SndE.var (by kernel_rfl) (by kernel_rfl))) SndE.int)))) SndEs.nil))))) (by rintro ⟨⟩ h; dsimp only at h; subst h; kernel_rfl) (allVarB_of (by kernel_rfl)))

theorem inOrd_is : FnIs (gOf prog w h₀ c mg mb) 36 (fdOf (heapK w.params) 36) (bodyOf (heapK w.params) 36) (mkCx TinOrd (scOf (heapK w.params) 36)) ["terms"] FinOrd :=
  FnIs.of (G := gOf prog w h₀ c mg mb) (by kernel_rfl) (vals1 fun a => by kernel_rfl)
set_option maxRecDepth 20000 in
theorem inOrd_S (hW : (Wd.mk (gOf prog w h₀ c mg mb) adr gloF R n).Ok) (hB : BagOk (gOf prog w h₀ c mg mb)) : SndS ⟨gOf prog w h₀ c mg mb, adr, gloF, R, n⟩ (mkCx TinOrd (scOf (heapK w.params) 36)) (bodyOf (heapK w.params) 36) FinOrd.body := by
  have hLv := @leavesE prog w h₀ c mg mb R n hW
  obtain ⟨b, hb⟩ : ∃ b, bodyOf (heapK w.params) 36 = b := ⟨_, rfl⟩
  obtain ⟨sc, hsc⟩ : ∃ sc, scOf (heapK w.params) 36 = sc := ⟨_, rfl⟩
  rw [hb, hsc]
  conv at hb => lhs; whnf
  conv at hsc => lhs; whnf
  subst hb hsc
  exact (SndS.ret (SndE.bi hW rfl (by kernel_rfl) (by kernel_rfl) (by kernel_rfl) (SndE.comp (comp0 (SndI.seq (SndE.bi hW rfl (by kernel_rfl) (by kernel_rfl) (by kernel_rfl) (SndE.comp (comp0 (SndI.seq (SndE.var (by kernel_rfl) (by kernel_rfl))) (by kernel_rfl) (tgt_one (by kernel_rfl)) (SndE.tup (SndEs.cons (SndE.call hW (by kernel_rfl) (by kernel_rfl) (by kernel_rfl) (SndEs.cons (SndE.var (by kernel_rfl) (by kernel_rfl)) SndEs.nil)) (SndEs.cons (SndE.var (by kernel_rfl) (by kernel_rfl)) SndEs.nil))))))) (by kernel_rfl) (tgt_two (by kernel_rfl) (by kernel_rfl)) (SndE.var (by kernel_rfl) (by kernel_rfl))))))

theorem isBag_is : FnIs (gOf prog w h₀ c mg mb) 57 (fdOf (heapK w.params) 57) (bodyOf (heapK w.params) 57) (mkCx TisBag (scOf (heapK w.params) 57)) ["self", "t"] FisBag :=
  FnIs.of (G := gOf prog w h₀ c mg mb) (by kernel_rfl) (vals2 fun a b => by kernel_rfl)
set_option maxRecDepth 20000 in
theorem isBag_S (hW : (Wd.mk (gOf prog w h₀ c mg mb) adr gloF R n).Ok) (hB : BagOk (gOf prog w h₀ c mg mb)) : SndS ⟨gOf prog w h₀ c mg mb, adr, gloF, R, n⟩ (mkCx TisBag (scOf (heapK w.params) 57)) (bodyOf (heapK w.params) 57) FisBag.body := by
  have hLv := @leavesE prog w h₀ c mg mb R n hW
  obtain ⟨b, hb⟩ : ∃ b, bodyOf (heapK w.params) 57 = b := ⟨_, rfl⟩
  obtain ⟨sc, hsc⟩ : ∃ sc, scOf (heapK w.params) 57 = sc := ⟨_, rfl⟩
  rw [hb, hsc]
  conv at hb => lhs; whnf
  conv at hsc => lhs; whnf
  subst hb hsc
  exact (SndS.ret (SndE.and (SndE.cmp (SndE.item (SndE.var (by kernel_rfl) (by kernel_rfl)) SndE.int) (SndE.ops hW hB (SndE.var (by kernel_rfl) (by kernel_rfl)) (by intro _; rfl))) (SndE.and1 (SndE.cmp (SndE.bi hW rfl (by kernel_rfl) (by kernel_rfl) (by kernel_rfl) (SndE.var (by kernel_rfl) (by kernel_rfl))) SndE.int))))

theorem kids_is : FnIs (gOf prog w h₀ c mg mb) 62 (fdOf (heapK w.params) 62) (bodyOf (heapK w.params) 62) (mkCx Tkids (scOf (heapK w.params) 62)) ["self", "op", "t"] Fkids :=
  FnIs.of (G := gOf prog w h₀ c mg mb) (by kernel_rfl) (vals3 fun a b c => by kernel_rfl)
set_option maxRecDepth 20000 in
theorem kids_S (hW : (Wd.mk (gOf prog w h₀ c mg mb) adr gloF R n).Ok) (hB : BagOk (gOf prog w h₀ c mg mb)) : SndS ⟨gOf prog w h₀ c mg mb, adr, gloF, R, n⟩ (mkCx Tkids (scOf (heapK w.params) 62)) (bodyOf (heapK w.params) 62) Fkids.body := by
  have hLv := @leavesE prog w h₀ c mg mb R n hW
  obtain ⟨b, hb⟩ : ∃ b, bodyOf (heapK w.params) 62 = b := ⟨_, rfl⟩
  obtain ⟨sc, hsc⟩ : ∃ sc, scOf (heapK w.params) 62 = sc := ⟨_, rfl⟩
  rw [hb, hsc]
  conv at hb => lhs; whnf
  conv at hsc => lhs; whnf
  subst hb hsc
  exact (SndS.ifS (SndB.or (SndB.cmp (SndE.item (SndE.var (by kernel_rfl) (by kernel_rfl)) SndE.int) (SndE.var (by kernel_rfl) (by kernel_rfl))) (SndB.or1 (SndB.notE (SndB.plain (SndE.meth hW hB (SndE.var (by kernel_rfl) (by kernel_rfl)) (SndEs.cons (SndE.var (by kernel_rfl) (by kernel_rfl)) SndEs.nil) (by kernel_rfl) (by kernel_rfl) (by kernel_rfl)))))) (SndS.ret (SndE.tup (SndEs.cons (SndE.var (by kernel_rfl) (by kernel_rfl)) SndEs.nil))) SndS.nil (SndS.ret (SndE.bi hW rfl (by kernel_rfl) (by kernel_rfl) (by kernel_rfl) (SndE.comp (comp2 (SndI.seq (SndE.slc _ (SndE.var (by kernel_rfl) (by kernel_rfl)) (by constructor) (by constructor) (by constructor))) (by kernel_rfl) (tgt_one (by kernel_rfl)) (SndE.var (by kernel_rfl) (by kernel_rfl)) (SndI.seq (SndE.meth hW hB (SndE.var (by kernel_rfl) (by kernel_rfl)) (SndEs.cons (SndE.var (by kernel_rfl) (by kernel_rfl)) (SndEs.cons (SndE.var (by kernel_rfl) (by kernel_rfl)) SndEs.nil)) (by kernel_rfl) (by kernel_rfl) (by kernel_rfl))) (tgt_one (by kernel_rfl)))))))

theorem made_is : FnIs (gOf prog w h₀ c mg mb) 67 (fdOf (heapK w.params) 67) (bodyOf (heapK w.params) 67) (mkCx Tmade (scOf (heapK w.params) 67)) ["self", "op", "some"] Fmade :=
  FnIs.of (G := gOf prog w h₀ c mg mb) (by kernel_rfl) (vals3 fun a b c => by kernel_rfl)
set_option maxRecDepth 20000 in
theorem made_S (hW : (Wd.mk (gOf prog w h₀ c mg mb) adr gloF R n).Ok) (hB : BagOk (gOf prog w h₀ c mg mb)) : SndS ⟨gOf prog w h₀ c mg mb, adr, gloF, R, n⟩ (mkCx Tmade (scOf (heapK w.params) 67)) (bodyOf (heapK w.params) 67) Fmade.body := by
  have hLv := @leavesE prog w h₀ c mg mb R n hW
  obtain ⟨b, hb⟩ : ∃ b, bodyOf (heapK w.params) 67 = b := ⟨_, rfl⟩
  obtain ⟨sc, hsc⟩ : ∃ sc, scOf (heapK w.params) 67 = sc := ⟨_, rfl⟩
  rw [hb, hsc]
  conv at hb => lhs; whnf
  conv at hsc => lhs; whnf
  subst hb hsc
  exact (SndS.asg (asgB_of (by kernel_rfl)) (SndE.call hW (by kernel_rfl) (by kernel_rfl) (by kernel_rfl) (SndEs.cons (SndE.comp (comp2 (SndI.seq (SndE.var (by kernel_rfl) (by kernel_rfl))) (by kernel_rfl) (tgt_one (by kernel_rfl)) (SndE.var (by kernel_rfl) (by kernel_rfl)) (SndI.seq (SndE.meth hW hB (SndE.var (by kernel_rfl) (by kernel_rfl)) (SndEs.cons (SndE.var (by kernel_rfl) (by kernel_rfl)) (SndEs.cons (SndE.var (by kernel_rfl) (by kernel_rfl)) SndEs.nil)) (by kernel_rfl) (by kernel_rfl) (by kernel_rfl))) (tgt_one (by kernel_rfl)))) SndEs.nil)) (SndS.ret (SndE.ite (SndB.cmp (SndE.bi hW rfl (by kernel_rfl) (by kernel_rfl) (by kernel_rfl) (SndE.var (by kernel_rfl) (by kernel_rfl))) SndE.int) (SndE.item (SndE.var (by kernel_rfl) (by kernel_rfl)) SndE.int) (SndE.bin (SndE.tup (SndEs.cons (SndE.var (by kernel_rfl) (by kernel_rfl)) SndEs.nil)) (SndE.var (by kernel_rfl) (by kernel_rfl))))))

theorem normal_is : FnIs (gOf prog w h₀ c mg mb) 72 (fdOf (heapK w.params) 72) (bodyOf (heapK w.params) 72) (mkCx Tnormal (scOf (heapK w.params) 72)) ["self", "t"] Fnormal :=
  FnIs.of (G := gOf prog w h₀ c mg mb) (by kernel_rfl) (vals2 fun a b => by kernel_rfl)
set_option maxRecDepth 20000 in
theorem normal_S (hW : (Wd.mk (gOf prog w h₀ c mg mb) adr gloF R n).Ok) (hB : BagOk (gOf prog w h₀ c mg mb)) : SndS ⟨gOf prog w h₀ c mg mb, adr, gloF, R, n⟩ (mkCx Tnormal (scOf (heapK w.params) 72)) (bodyOf (heapK w.params) 72) Fnormal.body := by
  have hLv := @leavesE prog w h₀ c mg mb R n hW
  obtain ⟨b, hb⟩ : ∃ b, bodyOf (heapK w.params) 72 = b := ⟨_, rfl⟩
  obtain ⟨sc, hsc⟩ : ∃ sc, scOf (heapK w.params) 72 = sc := ⟨_, rfl⟩
  rw [hb, hsc]
  conv at hb => lhs; whnf
  conv at hsc => lhs; whnf
  subst hb hsc
  exact (SndS.asgU (asgB_of (by kernel_rfl)) (comp0 (SndI.seq (SndE.slc _ (SndE.var (by kernel_rfl) (by kernel_rfl)) (by constructor) (by constructor) (by constructor))) (by kernel_rfl) (tgt_one (by kernel_rfl)) (SndE.meth hW hB (SndE.var (by kernel_rfl) (by kernel_rfl)) (SndEs.cons (SndE.var (by kernel_rfl) (by kernel_rfl)) SndEs.nil) (by kernel_rfl) (by kernel_rfl) (by kernel_rfl))) (SndS.ret (SndE.ite (SndB.plain (SndE.meth hW hB (SndE.var (by kernel_rfl) (by kernel_rfl)) (SndEs.cons (SndE.var (by kernel_rfl) (by kernel_rfl)) SndEs.nil) (by kernel_rfl) (by kernel_rfl) (by kernel_rfl))) (SndE.meth hW hB (SndE.var (by kernel_rfl) (by kernel_rfl)) (SndEs.cons (SndE.item (SndE.var (by kernel_rfl) (by kernel_rfl)) SndE.int) (SndEs.cons (SndE.var (by kernel_rfl) (by kernel_rfl)) SndEs.nil)) (by kernel_rfl) (by kernel_rfl) (by kernel_rfl)) (SndE.bin (SndE.tup (SndEs.cons (SndE.item (SndE.var (by kernel_rfl) (by kernel_rfl)) SndE.int) SndEs.nil)) (SndE.bi hW rfl (by kernel_rfl) (by kernel_rfl) (by kernel_rfl) (SndE.var (by kernel_rfl) (by kernel_rfl)))))) (by rintro ⟨⟩ h; dsimp only at h; subst h; kernel_rfl) (allVarB_of (by kernel_rfl)))

theorem areLike_is : FnIs (gOf prog w h₀ c mg mb) 79 (fdOf (heapK w.params) 79) (bodyOf (heapK w.params) 79) (mkCx TareLike (scOf (heapK w.params) 79)) ["self", "t", "u"] FareLike :=
  FnIs.of (G := gOf prog w h₀ c mg mb) (by kernel_rfl) (vals3 fun a b c => by kernel_rfl)
set_option maxRecDepth 20000 in
theorem areLike_S (hW : (Wd.mk (gOf prog w h₀ c mg mb) adr gloF R n).Ok) (hB : BagOk (gOf prog w h₀ c mg mb)) : SndS ⟨gOf prog w h₀ c mg mb, adr, gloF, R, n⟩ (mkCx TareLike (scOf (heapK w.params) 79)) (bodyOf (heapK w.params) 79) FareLike.body := by
  have hLv := @leavesE prog w h₀ c mg mb R n hW
  obtain ⟨b, hb⟩ : ∃ b, bodyOf (heapK w.params) 79 = b := ⟨_, rfl⟩
  obtain ⟨sc, hsc⟩ : ∃ sc, scOf (heapK w.params) 79 = sc := ⟨_, rfl⟩
  rw [hb, hsc]
  conv at hb => lhs; whnf
  conv at hsc => lhs; whnf
  subst hb hsc
  exact (SndS.ret (SndE.cmp (SndE.meth hW hB (SndE.var (by kernel_rfl) (by kernel_rfl)) (SndEs.cons (SndE.var (by kernel_rfl) (by kernel_rfl)) SndEs.nil) (by kernel_rfl) (by kernel_rfl) (by kernel_rfl)) (SndE.meth hW hB (SndE.var (by kernel_rfl) (by kernel_rfl)) (SndEs.cons (SndE.var (by kernel_rfl) (by kernel_rfl)) SndEs.nil) (by kernel_rfl) (by kernel_rfl) (by kernel_rfl))))

theorem nested_is : FnIs (gOf prog w h₀ c mg mb) 84 (fdOf (heapK w.params) 84) (bodyOf (heapK w.params) 84) (mkCx Tnested (scOf (heapK w.params) 84)) ["self", "t"] Fnested :=
  FnIs.of (G := gOf prog w h₀ c mg mb) (by kernel_rfl) (vals2 fun a b => by kernel_rfl)
set_option maxRecDepth 20000 in
theorem nested_S (hW : (Wd.mk (gOf prog w h₀ c mg mb) adr gloF R n).Ok) (hB : BagOk (gOf prog w h₀ c mg mb)) : SndS ⟨gOf prog w h₀ c mg mb, adr, gloF, R, n⟩ (mkCx Tnested (scOf (heapK w.params) 84)) (bodyOf (heapK w.params) 84) Fnested.body := by
  have hLv := @leavesE prog w h₀ c mg mb R n hW
  obtain ⟨b, hb⟩ : ∃ b, bodyOf (heapK w.params) 84 = b := ⟨_, rfl⟩
  obtain ⟨sc, hsc⟩ : ∃ sc, scOf (heapK w.params) 84 = sc := ⟨_, rfl⟩
  rw [hb, hsc]
  conv at hb => lhs; whnf
  conv at hsc => lhs; whnf
  subst hb hsc
  exact (SndS.asgU (asgB_of (by kernel_rfl)) (comp0 (SndI.seq (SndE.slc _ (SndE.var (by kernel_rfl) (by kernel_rfl)) (by constructor) (by constructor) (by constructor))) (by kernel_rfl) (tgt_one (by kernel_rfl)) (SndE.meth hW hB (SndE.var (by kernel_rfl) (by kernel_rfl)) (SndEs.cons (SndE.var (by kernel_rfl) (by kernel_rfl)) SndEs.nil) (by kernel_rfl) (by kernel_rfl) (by kernel_rfl))) (SndS.ifS (SndB.notE (SndB.plain (SndE.meth hW hB (SndE.var (by kernel_rfl) (by kernel_rfl)) (SndEs.cons (SndE.var (by kernel_rfl) (by kernel_rfl)) SndEs.nil) (by kernel_rfl) (by kernel_rfl) (by kernel_rfl)))) (SndS.ret (SndE.bin (SndE.tup (SndEs.cons (SndE.item (SndE.var (by kernel_rfl) (by kernel_rfl)) SndE.int) SndEs.nil)) (SndE.bi hW rfl (by kernel_rfl) (by kernel_rfl) (by kernel_rfl) (SndE.var (by kernel_rfl) (by kernel_rfl))))) SndS.nil (SndS.asg (asgB_of (by kernel_rfl)) (SndE.item (SndE.var (by kernel_rfl) (by kernel_rfl)) SndE.neg) (SndS.forS (SndI.seq (SndE.slc _ (SndE.var (by kernel_rfl) (by kernel_rfl)) (by constructor) (by constructor) (by constructor))) (tgt_one (by kernel_rfl)) (SndS.asg (asgB_of (by kernel_rfl)) (SndE.tup (SndEs.cons (SndE.item (SndE.var (by kernel_rfl) (by kernel_rfl)) SndE.int) (SndEs.cons (SndE.var (by kernel_rfl) (by kernel_rfl)) (SndEs.cons (SndE.var (by kernel_rfl) (by kernel_rfl)) SndEs.nil)))) SndS.nil) (SndS.ret (SndE.var (by kernel_rfl) (by kernel_rfl))) (by intro _ _; rfl) (allVarB_of (by kernel_rfl))))) (by rintro ⟨⟩ h; dsimp only at h; subst h; kernel_rfl) (allVarB_of (by kernel_rfl)))

theorem next_is : FnIs (gOf prog w h₀ c mg mb) 145 (fdOf (heapK w.params) 145) (bodyOf (heapK w.params) 145) (mkCx Tnext (scOf (heapK w.params) 145)) ["feed", "wide"] Fnext :=
  FnIs.of (G := gOf prog w h₀ c mg mb) (by kernel_rfl) (vals2 fun a b => by kernel_rfl)
set_option maxRecDepth 20000 in
theorem next_S (hW : (Wd.mk (gOf prog w h₀ c mg mb) adr gloF R n).Ok) (hB : BagOk (gOf prog w h₀ c mg mb)) : SndS ⟨gOf prog w h₀ c mg mb, adr, gloF, R, n⟩ (mkCx Tnext (scOf (heapK w.params) 145)) (bodyOf (heapK w.params) 145) Fnext.body := by
  have hLv := @leavesE prog w h₀ c mg mb R n hW
  obtain ⟨b, hb⟩ : ∃ b, bodyOf (heapK w.params) 145 = b := ⟨_, rfl⟩
  obtain ⟨sc, hsc⟩ : ∃ sc, scOf (heapK w.params) 145 = sc := ⟨_, rfl⟩
  rw [hb, hsc]
  conv at hb => lhs; whnf
  conv at hsc => lhs; whnf
  subst hb hsc
  exact (SndS.asg (asgB_of (by kernel_rfl)) (SndE.item (SndE.var (by kernel_rfl) (by kernel_rfl)) SndE.str) (SndS.fset (by kernel_rfl) (by kernel_rfl) (SndE.bin (SndE.var (by kernel_rfl) (by kernel_rfl)) SndE.int) (SndS.ifS (SndB.cmp (SndE.var (by kernel_rfl) (by kernel_rfl)) (SndE.bi hW rfl (by kernel_rfl) (by kernel_rfl) (by kernel_rfl) (SndE.item (SndE.var (by kernel_rfl) (by kernel_rfl)) SndE.str))) (SndS.ret (SndE.bin (SndE.item (SndE.item (SndE.var (by kernel_rfl) (by kernel_rfl)) SndE.str) (SndE.var (by kernel_rfl) (by kernel_rfl))) (SndE.var (by kernel_rfl) (by kernel_rfl)))) SndS.nil (SndS.ret (SndE.bin (SndE.bin (SndE.bin (SndE.bin (SndE.bin (SndE.bin (SndE.bin SndE.int (SndE.var (by kernel_rfl) (by kernel_rfl))) (SndE.var (by kernel_rfl) (by kernel_rfl))) (SndE.bin SndE.int (SndE.var (by kernel_rfl) (by kernel_rfl)))) SndE.int) (SndE.bin SndE.int (SndE.bi hW rfl (by kernel_rfl) (by kernel_rfl) (by kernel_rfl) (SndE.item (SndE.var (by kernel_rfl) (by kernel_rfl)) SndE.str)))) SndE.int) (SndE.var (by kernel_rfl) (by kernel_rfl)))))))

theorem term_is : FnIs (gOf prog w h₀ c mg mb) 152 (fdOf (heapK w.params) 152) (bodyOf (heapK w.params) 152) (mkCx Tterm (scOf (heapK w.params) 152)) ["feed", "deep"] Fterm :=
  FnIs.of (G := gOf prog w h₀ c mg mb) (by kernel_rfl) (vals2 fun a b => by kernel_rfl)
set_option maxRecDepth 20000 in
theorem term_S (hW : (Wd.mk (gOf prog w h₀ c mg mb) adr gloF R n).Ok) (hB : BagOk (gOf prog w h₀ c mg mb)) : SndS ⟨gOf prog w h₀ c mg mb, adr, gloF, R, n⟩ (mkCx Tterm (scOf (heapK w.params) 152)) (bodyOf (heapK w.params) 152) Fterm.body := by
  have hLv := @leavesE prog w h₀ c mg mb R n hW
  obtain ⟨b, hb⟩ : ∃ b, bodyOf (heapK w.params) 152 = b := ⟨_, rfl⟩
  obtain ⟨sc, hsc⟩ : ∃ sc, scOf (heapK w.params) 152 = sc := ⟨_, rfl⟩
  rw [hb, hsc]
  conv at hb => lhs; whnf
  conv at hsc => lhs; whnf
  subst hb hsc
  exact (SndS.asg (asgB_of (by kernel_rfl)) (SndE.ite (SndB.cmp (SndE.var (by kernel_rfl) (by kernel_rfl)) SndE.int) (SndE.call hW (by kernel_rfl) (by kernel_rfl) (by kernel_rfl) (SndEs.cons (SndE.var (by kernel_rfl) (by kernel_rfl)) (SndEs.cons SndE.int SndEs.nil))) SndE.int) (SndS.ifS (SndB.cmp (SndE.var (by kernel_rfl) (by kernel_rfl)) SndE.int) (SndS.ret (SndE.item (hLv (by kernel_rfl)) (SndE.call hW (by kernel_rfl) (by kernel_rfl) (by kernel_rfl) (SndEs.cons (SndE.var (by kernel_rfl) (by kernel_rfl)) (SndEs.cons SndE.int SndEs.nil))))) SndS.nil (SndS.asg (asgB_of (by kernel_rfl)) (SndE.call hW (by kernel_rfl) (by kernel_rfl) (by kernel_rfl) (SndEs.cons (SndE.var (by kernel_rfl) (by kernel_rfl)) (SndEs.cons (SndE.bin (SndE.var (by kernel_rfl) (by kernel_rfl)) SndE.int) SndEs.nil))) (SndS.ifS (SndB.cmp (SndE.var (by kernel_rfl) (by kernel_rfl)) SndE.int) (SndS.ret (SndE.tup (SndEs.cons (SndE.item (SndE.tup (SndEs.cons SndE.str (SndEs.cons SndE.str SndEs.nil))) (SndE.call hW (by kernel_rfl) (by kernel_rfl) (by kernel_rfl) (SndEs.cons (SndE.var (by kernel_rfl) (by kernel_rfl)) (SndEs.cons SndE.int SndEs.nil)))) (SndEs.cons (SndE.var (by kernel_rfl) (by kernel_rfl)) SndEs.nil)))) SndS.nil (SndS.asg (asgB_of (by kernel_rfl)) (SndE.call hW (by kernel_rfl) (by kernel_rfl) (by kernel_rfl) (SndEs.cons (SndE.var (by kernel_rfl) (by kernel_rfl)) (SndEs.cons (SndE.bin (SndE.var (by kernel_rfl) (by kernel_rfl)) SndE.int) SndEs.nil))) (SndS.ifS (SndB.cmp (SndE.var (by kernel_rfl) (by kernel_rfl)) SndE.int) (SndS.ret (SndE.tup (SndEs.cons SndE.str (SndEs.cons (SndE.var (by kernel_rfl) (by kernel_rfl)) (SndEs.cons (SndE.var (by kernel_rfl) (by kernel_rfl)) SndEs.nil))))) SndS.nil (SndS.asg (asgB_of (by kernel_rfl)) (SndE.ite (SndB.and (SndB.cmp (SndE.var (by kernel_rfl) (by kernel_rfl)) SndE.int) (SndB.and1 (SndB.cmp (SndE.var (by kernel_rfl) (by kernel_rfl)) SndE.int))) (SndE.tup (SndEs.cons (SndE.call hW (by kernel_rfl) (by kernel_rfl) (by kernel_rfl) (SndEs.cons (SndE.var (by kernel_rfl) (by kernel_rfl)) (SndEs.cons (SndE.bin (SndE.var (by kernel_rfl) (by kernel_rfl)) SndE.int) SndEs.nil))) SndEs.nil)) (SndE.tup SndEs.nil)) (SndS.ret (SndE.bin (SndE.tup (SndEs.cons (SndE.ite (SndB.cmp (SndE.bin (SndE.var (by kernel_rfl) (by kernel_rfl)) SndE.int) SndE.int) SndE.str SndE.str) (SndEs.cons (SndE.var (by kernel_rfl) (by kernel_rfl)) (SndEs.cons (SndE.var (by kernel_rfl) (by kernel_rfl)) SndEs.nil)))) (SndE.var (by kernel_rfl) (by kernel_rfl)))))))))))

theorem moved_is : FnIs (gOf prog w h₀ c mg mb) 157 (fdOf (heapK w.params) 157) (bodyOf (heapK w.params) 157) (mkCx Tmoved (scOf (heapK w.params) 157)) ["feed", "t"] Fmoved :=
  FnIs.of (G := gOf prog w h₀ c mg mb) (by kernel_rfl) (vals2 fun a b => by kernel_rfl)
set_option maxRecDepth 20000 in
theorem moved_S (hW : (Wd.mk (gOf prog w h₀ c mg mb) adr gloF R n).Ok) (hB : BagOk (gOf prog w h₀ c mg mb)) : SndS ⟨gOf prog w h₀ c mg mb, adr, gloF, R, n⟩ (mkCx Tmoved (scOf (heapK w.params) 157)) (bodyOf (heapK w.params) 157) Fmoved.body := by
  have hLv := @leavesE prog w h₀ c mg mb R n hW
  obtain ⟨b, hb⟩ : ∃ b, bodyOf (heapK w.params) 157 = b := ⟨_, rfl⟩
  obtain ⟨sc, hsc⟩ : ∃ sc, scOf (heapK w.params) 157 = sc := ⟨_, rfl⟩
  rw [hb, hsc]
  conv at hb => lhs; whnf
  conv at hsc => lhs; whnf
  subst hb hsc
  exact (SndS.asgU (asgB_of (by kernel_rfl)) (comp0 (SndI.seq (SndE.slc _ (SndE.var (by kernel_rfl) (by kernel_rfl)) (by constructor) (by constructor) (by constructor))) (by kernel_rfl) (tgt_one (by kernel_rfl)) (SndE.call hW (by kernel_rfl) (by kernel_rfl) (by kernel_rfl) (SndEs.cons (SndE.var (by kernel_rfl) (by kernel_rfl)) (SndEs.cons (SndE.var (by kernel_rfl) (by kernel_rfl)) SndEs.nil)))) (SndS.ifS (SndB.or (SndB.cmp (SndE.item (SndE.var (by kernel_rfl) (by kernel_rfl)) SndE.int) (SndE.tup (SndEs.cons SndE.str (SndEs.cons SndE.str SndEs.nil)))) (SndB.or1 (SndB.cmp (SndE.bi hW rfl (by kernel_rfl) (by kernel_rfl) (by kernel_rfl) (SndE.var (by kernel_rfl) (by kernel_rfl))) SndE.int))) (SndS.ret (SndE.bin (SndE.tup (SndEs.cons (SndE.item (SndE.var (by kernel_rfl) (by kernel_rfl)) SndE.int) SndEs.nil)) (SndE.bi hW rfl (by kernel_rfl) (by kernel_rfl) (by kernel_rfl) (SndE.var (by kernel_rfl) (by kernel_rfl))))) SndS.nil (SndS.ifS (SndB.cmp (SndE.call hW (by kernel_rfl) (by kernel_rfl) (by kernel_rfl) (SndEs.cons (SndE.var (by kernel_rfl) (by kernel_rfl)) (SndEs.cons SndE.int SndEs.nil))) SndE.int) (SndS.asg (asgB_of (by kernel_rfl)) (SndE.bin (SndE.slc _ (SndE.var (by kernel_rfl) (by kernel_rfl)) (by constructor) (by constructor) (by constructor)) (SndE.slc _ (SndE.var (by kernel_rfl) (by kernel_rfl)) (by constructor) (by constructor) (by constructor))) SndS.nil) SndS.nil (SndS.ifS (SndB.and (SndB.cmp (SndE.bi hW rfl (by kernel_rfl) (by kernel_rfl) (by kernel_rfl) (SndE.var (by kernel_rfl) (by kernel_rfl))) SndE.int) (SndB.and1 (SndB.cmp (SndE.call hW (by kernel_rfl) (by kernel_rfl) (by kernel_rfl) (SndEs.cons (SndE.var (by kernel_rfl) (by kernel_rfl)) (SndEs.cons SndE.int SndEs.nil))) SndE.int))) (SndS.asg (asgB_of (by kernel_rfl)) (SndE.lst (SndEs.cons (SndE.item (SndE.var (by kernel_rfl) (by kernel_rfl)) SndE.int) (SndEs.cons (SndE.tup (SndEs.cons (SndE.item (SndE.var (by kernel_rfl) (by kernel_rfl)) SndE.int) (SndEs.cons (SndE.item (SndE.var (by kernel_rfl) (by kernel_rfl)) SndE.int) (SndEs.cons (SndE.item (SndE.var (by kernel_rfl) (by kernel_rfl)) SndE.int) SndEs.nil)))) SndEs.nil))) SndS.nil) (SndS.ifS (SndB.and (SndB.cmp (SndE.bi hW rfl (by kernel_rfl) (by kernel_rfl) (by kernel_rfl) (SndE.item (SndE.var (by kernel_rfl) (by kernel_rfl)) SndE.int)) SndE.int) (SndB.and1 (SndB.cmp (SndE.item (SndE.item (SndE.var (by kernel_rfl) (by kernel_rfl)) SndE.int) SndE.int) (SndE.item (SndE.var (by kernel_rfl) (by kernel_rfl)) SndE.int)))) (SndS.asg (asgB_of (by kernel_rfl)) (SndE.bin (SndE.bi hW rfl (by kernel_rfl) (by kernel_rfl) (by kernel_rfl) (SndE.slc _ (SndE.item (SndE.var (by kernel_rfl) (by kernel_rfl)) SndE.int) (by constructor) (by constructor) (by constructor))) (SndE.slc _ (SndE.var (by kernel_rfl) (by kernel_rfl)) (by constructor) (by constructor) (by constructor))) SndS.nil) SndS.nil SndS.nil) (SndS.ret (SndE.bin (SndE.tup (SndEs.cons (SndE.item (SndE.var (by kernel_rfl) (by kernel_rfl)) SndE.int) SndEs.nil)) (SndE.bi hW rfl (by kernel_rfl) (by kernel_rfl) (by kernel_rfl) (SndE.var (by kernel_rfl) (by kernel_rfl)))))))) (by rintro ⟨⟩ h; dsimp only at h; subst h; kernel_rfl) (allVarB_of (by kernel_rfl)))

theorem bent_is : FnIs (gOf prog w h₀ c mg mb) 164 (fdOf (heapK w.params) 164) (bodyOf (heapK w.params) 164) (mkCx Tbent (scOf (heapK w.params) 164)) ["t"] Fbent :=
  FnIs.of (G := gOf prog w h₀ c mg mb) (by kernel_rfl) (vals1 fun a => by kernel_rfl)
set_option maxRecDepth 20000 in
theorem bent_S (hW : (Wd.mk (gOf prog w h₀ c mg mb) adr gloF R n).Ok) (hB : BagOk (gOf prog w h₀ c mg mb)) : SndS ⟨gOf prog w h₀ c mg mb, adr, gloF, R, n⟩ (mkCx Tbent (scOf (heapK w.params) 164)) (bodyOf (heapK w.params) 164) Fbent.body := by
  have hLv := @leavesE prog w h₀ c mg mb R n hW
  obtain ⟨b, hb⟩ : ∃ b, bodyOf (heapK w.params) 164 = b := ⟨_, rfl⟩
  obtain ⟨sc, hsc⟩ : ∃ sc, scOf (heapK w.params) 164 = sc := ⟨_, rfl⟩
  rw [hb, hsc]
  conv at hb => lhs; whnf
  conv at hsc => lhs; whnf
  subst hb hsc
  exact (SndS.ifS (SndB.cmp (SndE.bi hW rfl (by kernel_rfl) (by kernel_rfl) (by kernel_rfl) (SndE.var (by kernel_rfl) (by kernel_rfl))) SndE.int) (SndS.ret (SndE.ite (SndB.cmp (SndE.var (by kernel_rfl) (by kernel_rfl)) (SndE.tup (SndEs.cons SndE.str SndEs.nil))) (SndE.tup (SndEs.cons SndE.str SndEs.nil)) (SndE.tup (SndEs.cons SndE.str SndEs.nil)))) SndS.nil (SndS.ret (SndE.bin (SndE.slc _ (SndE.var (by kernel_rfl) (by kernel_rfl)) (by constructor) (by constructor) (by constructor)) (SndE.tup (SndEs.cons (SndE.call hW (by kernel_rfl) (by kernel_rfl) (by kernel_rfl) (SndEs.cons (SndE.item (SndE.var (by kernel_rfl) (by kernel_rfl)) SndE.neg) SndEs.nil)) SndEs.nil)))))

theorem flat_is : FnIs (gOf prog w h₀ c mg mb) 169 (fdOf (heapK w.params) 169) (bodyOf (heapK w.params) 169) (mkCx Tflat (scOf (heapK w.params) 169)) ["ops", "t"] Fflat :=
  FnIs.of (G := gOf prog w h₀ c mg mb) (by kernel_rfl) (vals2 fun a b => by kernel_rfl)
set_option maxRecDepth 20000 in
theorem flat_S (hW : (Wd.mk (gOf prog w h₀ c mg mb) adr gloF R n).Ok) (hB : BagOk (gOf prog w h₀ c mg mb)) : SndS ⟨gOf prog w h₀ c mg mb, adr, gloF, R, n⟩ (mkCx Tflat (scOf (heapK w.params) 169)) (bodyOf (heapK w.params) 169) Fflat.body := by
  have hLv := @leavesE prog w h₀ c mg mb R n hW
  obtain ⟨b, hb⟩ : ∃ b, bodyOf (heapK w.params) 169 = b := ⟨_, rfl⟩
  obtain ⟨sc, hsc⟩ : ∃ sc, scOf (heapK w.params) 169 = sc := ⟨_, rfl⟩
  rw [hb, hsc]
  conv at hb => lhs; whnf
  conv at hsc => lhs; whnf
  subst hb hsc
  exact (SndS.ifS (SndB.or (SndB.cmp (SndE.item (SndE.var (by kernel_rfl) (by kernel_rfl)) SndE.int) (SndE.var (by kernel_rfl) (by kernel_rfl))) (SndB.or1 (SndB.cmp (SndE.bi hW rfl (by kernel_rfl) (by kernel_rfl) (by kernel_rfl) (SndE.var (by kernel_rfl) (by kernel_rfl))) SndE.int))) (SndS.ret (SndE.lst (SndEs.cons (SndE.var (by kernel_rfl) (by kernel_rfl)) SndEs.nil))) SndS.nil (SndS.ret (SndE.comp (comp2 (SndI.seq (SndE.slc _ (SndE.var (by kernel_rfl) (by kernel_rfl)) (by constructor) (by constructor) (by constructor))) (by kernel_rfl) (tgt_one (by kernel_rfl)) (SndE.var (by kernel_rfl) (by kernel_rfl)) (SndI.seq (SndE.call hW (by kernel_rfl) (by kernel_rfl) (by kernel_rfl) (SndEs.cons (SndE.var (by kernel_rfl) (by kernel_rfl)) (SndEs.cons (SndE.item (SndE.var (by kernel_rfl) (by kernel_rfl)) SndE.int) (SndEs.cons (SndE.var (by kernel_rfl) (by kernel_rfl)) SndEs.nil))))) (tgt_one (by kernel_rfl))))))

theorem flatBy_is : FnIs (gOf prog w h₀ c mg mb) 176 (fdOf (heapK w.params) 176) (bodyOf (heapK w.params) 176) (mkCx TflatBy (scOf (heapK w.params) 176)) ["ops", "op", "t"] FflatBy :=
  FnIs.of (G := gOf prog w h₀ c mg mb) (by kernel_rfl) (vals3 fun a b c => by kernel_rfl)
set_option maxRecDepth 20000 in
theorem flatBy_S (hW : (Wd.mk (gOf prog w h₀ c mg mb) adr gloF R n).Ok) (hB : BagOk (gOf prog w h₀ c mg mb)) : SndS ⟨gOf prog w h₀ c mg mb, adr, gloF, R, n⟩ (mkCx TflatBy (scOf (heapK w.params) 176)) (bodyOf (heapK w.params) 176) FflatBy.body := by
  have hLv := @leavesE prog w h₀ c mg mb R n hW
  obtain ⟨b, hb⟩ : ∃ b, bodyOf (heapK w.params) 176 = b := ⟨_, rfl⟩
  obtain ⟨sc, hsc⟩ : ∃ sc, scOf (heapK w.params) 176 = sc := ⟨_, rfl⟩
  rw [hb, hsc]
  conv at hb => lhs; whnf
  conv at hsc => lhs; whnf
  subst hb hsc
  exact (SndS.ret (SndE.ite (SndB.cmp (SndE.item (SndE.var (by kernel_rfl) (by kernel_rfl)) SndE.int) (SndE.var (by kernel_rfl) (by kernel_rfl))) (SndE.call hW (by kernel_rfl) (by kernel_rfl) (by kernel_rfl) (SndEs.cons (SndE.var (by kernel_rfl) (by kernel_rfl)) (SndEs.cons (SndE.var (by kernel_rfl) (by kernel_rfl)) SndEs.nil))) (SndE.lst (SndEs.cons (SndE.var (by kernel_rfl) (by kernel_rfl)) SndEs.nil))))

theorem counted_is : FnIs (gOf prog w h₀ c mg mb) 181 (fdOf (heapK w.params) 181) (bodyOf (heapK w.params) 181) (mkCx Tcounted (scOf (heapK w.params) 181)) ["ops", "t"] Fcounted :=
  FnIs.of (G := gOf prog w h₀ c mg mb) (by kernel_rfl) (vals2 fun a b => by kernel_rfl)
set_option maxRecDepth 20000 in
theorem counted_S (hW : (Wd.mk (gOf prog w h₀ c mg mb) adr gloF R n).Ok) (hB : BagOk (gOf prog w h₀ c mg mb)) : SndS ⟨gOf prog w h₀ c mg mb, adr, gloF, R, n⟩ (mkCx Tcounted (scOf (heapK w.params) 181)) (bodyOf (heapK w.params) 181) Fcounted.body := by
  have hLv := @leavesE prog w h₀ c mg mb R n hW
  obtain ⟨b, hb⟩ : ∃ b, bodyOf (heapK w.params) 181 = b := ⟨_, rfl⟩
  obtain ⟨sc, hsc⟩ : ∃ sc, scOf (heapK w.params) 181 = sc := ⟨_, rfl⟩
  rw [hb, hsc]
  conv at hb => lhs; whnf
  conv at hsc => lhs; whnf
  subst hb hsc
  exact (SndS.asg (asgB_of (by kernel_rfl)) (SndE.call hW (by kernel_rfl) (by kernel_rfl) (by kernel_rfl) (SndEs.cons (SndE.var (by kernel_rfl) (by kernel_rfl)) (SndEs.cons (SndE.var (by kernel_rfl) (by kernel_rfl)) SndEs.nil))) (SndS.ifS (SndB.cmp (SndE.var (by kernel_rfl) (by kernel_rfl)) (SndE.lst (SndEs.cons (SndE.var (by kernel_rfl) (by kernel_rfl)) SndEs.nil))) (SndS.ret (SndE.bin (SndE.bin (SndE.bin SndE.str (SndE.item (SndE.var (by kernel_rfl) (by kernel_rfl)) SndE.int)) (SndE.join (by kernel_rfl) (SndE.comp (comp0 (SndI.seq (SndE.slc _ (SndE.var (by kernel_rfl) (by kernel_rfl)) (by constructor) (by constructor) (by constructor))) (by kernel_rfl) (tgt_one (by kernel_rfl)) (SndE.call hW (by kernel_rfl) (by kernel_rfl) (by kernel_rfl) (SndEs.cons (SndE.var (by kernel_rfl) (by kernel_rfl)) (SndEs.cons (SndE.var (by kernel_rfl) (by kernel_rfl)) SndEs.nil))))))) SndE.str)) SndS.nil (SndS.ret (SndE.bin (SndE.bin (SndE.bin SndE.str (SndE.item (SndE.var (by kernel_rfl) (by kernel_rfl)) SndE.int)) (SndE.join (by kernel_rfl) (SndE.bi hW rfl (by kernel_rfl) (by kernel_rfl) (by kernel_rfl) (SndE.comp (comp0 (SndI.seq (SndE.var (by kernel_rfl) (by kernel_rfl))) (by kernel_rfl) (tgt_one (by kernel_rfl)) (SndE.call hW (by kernel_rfl) (by kernel_rfl) (by kernel_rfl) (SndEs.cons (SndE.var (by kernel_rfl) (by kernel_rfl)) (SndEs.cons (SndE.var (by kernel_rfl) (by kernel_rfl)) SndEs.nil)))))))) SndE.str))))

theorem all_is : FnIs (gOf prog w h₀ c mg mb) 188 (fdOf (heapK w.params) 188) (bodyOf (heapK w.params) 188) (mkCx Tall (scOf (heapK w.params) 188)) ["t"] Fall :=
  FnIs.of (G := gOf prog w h₀ c mg mb) (by kernel_rfl) (vals1 fun a => by kernel_rfl)
set_option maxRecDepth 20000 in
theorem all_S (hW : (Wd.mk (gOf prog w h₀ c mg mb) adr gloF R n).Ok) (hB : BagOk (gOf prog w h₀ c mg mb)) : SndS ⟨gOf prog w h₀ c mg mb, adr, gloF, R, n⟩ (mkCx Tall (scOf (heapK w.params) 188)) (bodyOf (heapK w.params) 188) Fall.body := by
  have hLv := @leavesE prog w h₀ c mg mb R n hW
  obtain ⟨b, hb⟩ : ∃ b, bodyOf (heapK w.params) 188 = b := ⟨_, rfl⟩
  obtain ⟨sc, hsc⟩ : ∃ sc, scOf (heapK w.params) 188 = sc := ⟨_, rfl⟩
  rw [hb, hsc]
  conv at hb => lhs; whnf
  conv at hsc => lhs; whnf
  subst hb hsc
  exact (SndS.asg (asgB_of (by kernel_rfl)) (SndE.lst (SndEs.cons (SndE.var (by kernel_rfl) (by kernel_rfl)) SndEs.nil)) (SndS.forS (SndI.seq (SndE.slc _ (SndE.var (by kernel_rfl) (by kernel_rfl)) (by constructor) (by constructor) (by constructor))) (tgt_one (by kernel_rfl)) (SndS.asg (asgB_of (by kernel_rfl)) (SndE.bin (SndE.var (by kernel_rfl) (by kernel_rfl)) (SndE.call hW (by kernel_rfl) (by kernel_rfl) (by kernel_rfl) (SndEs.cons (SndE.var (by kernel_rfl) (by kernel_rfl)) SndEs.nil))) SndS.nil) (SndS.ret (SndE.var (by kernel_rfl) (by kernel_rfl))) (by intro _ _; rfl) (allVarB_of (by kernel_rfl))))

theorem key_is : FnIs (gOf prog w h₀ c mg mb) 193 (fdOf (heapK w.params) 193) (bodyOf (heapK w.params) 193) (mkCx Tkey (scOf (heapK w.params) 193)) ["t"] Fkey :=
  FnIs.of (G := gOf prog w h₀ c mg mb) (by kernel_rfl) (vals1 fun a => by kernel_rfl)
set_option maxRecDepth 20000 in
theorem key_S (hW : (Wd.mk (gOf prog w h₀ c mg mb) adr gloF R n).Ok) (hB : BagOk (gOf prog w h₀ c mg mb)) : SndS ⟨gOf prog w h₀ c mg mb, adr, gloF, R, n⟩ (mkCx Tkey (scOf (heapK w.params) 193)) (bodyOf (heapK w.params) 193) Fkey.body := by
  have hLv := @leavesE prog w h₀ c mg mb R n hW
  obtain ⟨b, hb⟩ : ∃ b, bodyOf (heapK w.params) 193 = b := ⟨_, rfl⟩
  obtain ⟨sc, hsc⟩ : ∃ sc, scOf (heapK w.params) 193 = sc := ⟨_, rfl⟩
  rw [hb, hsc]
  conv at hb => lhs; whnf
  conv at hsc => lhs; whnf
  subst hb hsc
  exact (SndS.asg (asgB_of (by kernel_rfl)) (SndE.call hW (by kernel_rfl) (by kernel_rfl) (by kernel_rfl) (SndEs.cons (SndE.var (by kernel_rfl) (by kernel_rfl)) SndEs.nil)) (SndS.ret (SndE.tup (SndEs.cons (SndE.bi hW rfl (by kernel_rfl) (by kernel_rfl) (by kernel_rfl) (SndE.var (by kernel_rfl) (by kernel_rfl))) (SndEs.cons (SndE.comp (comp0 (SndI.seq (SndE.var (by kernel_rfl) (by kernel_rfl))) (by kernel_rfl) (tgt_one (by kernel_rfl)) (SndE.item (SndE.var (by kernel_rfl) (by kernel_rfl)) SndE.int))) (SndEs.cons (SndE.comp (comp0 (SndI.seq (SndE.var (by kernel_rfl) (by kernel_rfl))) (by kernel_rfl) (tgt_one (by kernel_rfl)) (SndE.bi hW rfl (by kernel_rfl) (by kernel_rfl) (by kernel_rfl) (SndE.var (by kernel_rfl) (by kernel_rfl))))) SndEs.nil))))))

theorem isNormal_is : FnIs (gOf prog w h₀ c mg mb) 198 (fdOf (heapK w.params) 198) (bodyOf (heapK w.params) 198) (mkCx TisNormal (scOf (heapK w.params) 198)) ["ops", "t"] FisNormal :=
  FnIs.of (G := gOf prog w h₀ c mg mb) (by kernel_rfl) (vals2 fun a b => by kernel_rfl)
set_option maxRecDepth 20000 in
theorem isNormal_S (hW : (Wd.mk (gOf prog w h₀ c mg mb) adr gloF R n).Ok) (hB : BagOk (gOf prog w h₀ c mg mb)) : SndS ⟨gOf prog w h₀ c mg mb, adr, gloF, R, n⟩ (mkCx TisNormal (scOf (heapK w.params) 198)) (bodyOf (heapK w.params) 198) FisNormal.body := by
  have hLv := @leavesE prog w h₀ c mg mb R n hW
  obtain ⟨b, hb⟩ : ∃ b, bodyOf (heapK w.params) 198 = b := ⟨_, rfl⟩
  obtain ⟨sc, hsc⟩ : ∃ sc, scOf (heapK w.params) 198 = sc := ⟨_, rfl⟩
  rw [hb, hsc]
  conv at hb => lhs; whnf
  conv at hsc => lhs; whnf
  subst hb hsc
  exact (SndS.forS (SndI.seq (SndE.call hW (by kernel_rfl) (by kernel_rfl) (by kernel_rfl) (SndEs.cons (SndE.var (by kernel_rfl) (by kernel_rfl)) SndEs.nil))) (tgt_one (by kernel_rfl)) (SndS.ifS (SndB.and (SndB.cmp (SndE.item (SndE.var (by kernel_rfl) (by kernel_rfl)) SndE.int) (SndE.var (by kernel_rfl) (by kernel_rfl))) (SndB.and1 (SndB.cmp (SndE.bi hW rfl (by kernel_rfl) (by kernel_rfl) (by kernel_rfl) (SndE.var (by kernel_rfl) (by kernel_rfl))) SndE.int))) (SndS.asgU (asgB_of (by kernel_rfl)) (comp0 (SndI.seq (SndE.slc _ (SndE.var (by kernel_rfl) (by kernel_rfl)) (by constructor) (by constructor) (by constructor))) (by kernel_rfl) (tgt_one (by kernel_rfl)) (SndE.call hW (by kernel_rfl) (by kernel_rfl) (by kernel_rfl) (SndEs.cons (SndE.var (by kernel_rfl) (by kernel_rfl)) SndEs.nil))) (SndS.ifS (SndB.or (SndB.cmp (SndE.var (by kernel_rfl) (by kernel_rfl)) (SndE.bi hW rfl (by kernel_rfl) (by kernel_rfl) (by kernel_rfl) (SndE.var (by kernel_rfl) (by kernel_rfl)))) (SndB.or1 (SndB.cmp (SndE.comp (comp1 (SndI.seq (SndE.slc _ (SndE.var (by kernel_rfl) (by kernel_rfl)) (by constructor) (by constructor) (by constructor))) (by kernel_rfl) (tgt_one (by kernel_rfl)) (SndE.var (by kernel_rfl) (by kernel_rfl)) (SndB.and (SndB.cmp (SndE.item (SndE.var (by kernel_rfl) (by kernel_rfl)) SndE.int) (SndE.item (SndE.var (by kernel_rfl) (by kernel_rfl)) SndE.int)) (SndB.and1 (SndB.cmp (SndE.bi hW rfl (by kernel_rfl) (by kernel_rfl) (by kernel_rfl) (SndE.var (by kernel_rfl) (by kernel_rfl))) SndE.int))))) (SndE.lst SndEs.nil)))) (SndS.ret SndE.bool) SndS.nil SndS.nil) (by rintro ⟨⟩ h; dsimp only at h; subst h; kernel_rfl) (allVarB_of (by kernel_rfl))) SndS.nil SndS.nil) (SndS.ret SndE.bool) (by intro _ _; rfl) (allVarB_of (by kernel_rfl)))

end
end Mine

end
noncomputable section
namespace Mine
open PySem PySem.W PyProof.Rows PySem.Calls
section
variable {prog : Program} {w : World} {h₀ : Heap} {c : Addr} {mg mb : Str → Option Value}
theorem bag_ok : BagOk (gOf prog w h₀ c mg mb) := ⟨by kernel_rfl, by kernel_rfl, by kernel_rfl, by kernel_rfl⟩
theorem init_ok : InitOk (gOf prog w h₀ c mg mb) := ⟨by kernel_rfl, by kernel_rfl, by kernel_rfl, by kernel_rfl,
  50, _, _, _, _, _, _, _, _, by kernel_rfl, by kernel_rfl, rfl, rfl, by kernel_rfl, fun _ _ => by kernel_rfl, by decide, by kernel_rfl, by kernel_rfl, rfl, rfl, rfl⟩
theorem all_ok (hG : Glb (gOf prog w h₀ c mg mb)) : ∀ n, Wd.Ok ⟨gOf prog w h₀ c mg mb, adr, gloF, run gloF fnT n, n⟩ := all_calls hG fun n f m h ih => by
  have hB := bag_ok (prog := prog) (w := w) (h₀ := h₀) (c := c) (mg := mg) (mb := mb)
  match f, h with
  | 0, h => cases h; exact ⟨_, _, _, _, parts_is, parts_S ih hB⟩
  | 1, h => cases h; exact ⟨_, _, _, _, keyOf_is, keyOf_S ih hB⟩
  | 2, h => cases h; exact ⟨_, _, _, _, inOrd_is, inOrd_S ih hB⟩
  | 3, h => cases h; exact ⟨_, _, _, _, isBag_is, isBag_S ih hB⟩
  | 4, h => cases h; exact ⟨_, _, _, _, kids_is, kids_S ih hB⟩
  | 5, h => cases h; exact ⟨_, _, _, _, made_is, made_S ih hB⟩
  | 6, h => cases h; exact ⟨_, _, _, _, normal_is, normal_S ih hB⟩
  | 7, h => cases h; exact ⟨_, _, _, _, areLike_is, areLike_S ih hB⟩
  | 8, h => cases h; exact ⟨_, _, _, _, nested_is, nested_S ih hB⟩
  | 9, h => cases h; exact ⟨_, _, _, _, next_is, next_S ih hB⟩
  | 10, h => cases h; exact ⟨_, _, _, _, term_is, term_S ih hB⟩
  | 11, h => cases h; exact ⟨_, _, _, _, moved_is, moved_S ih hB⟩
  | 12, h => cases h; exact ⟨_, _, _, _, bent_is, bent_S ih hB⟩
  | 13, h => cases h; exact ⟨_, _, _, _, flat_is, flat_S ih hB⟩
  | 14, h => cases h; exact ⟨_, _, _, _, flatBy_is, flatBy_S ih hB⟩
  | 15, h => cases h; exact ⟨_, _, _, _, counted_is, counted_S ih hB⟩
  | 16, h => cases h; exact ⟨_, _, _, _, all_is, all_S ih hB⟩
  | 17, h => cases h; exact ⟨_, _, _, _, key_is, key_S ih hB⟩
  | 18, h => cases h; exact ⟨_, _, _, _, isNormal_is, isNormal_S ih hB⟩
  | n + 19, h => cases h
end
end Mine

end
noncomputable section
namespace Mine
open PySem PySem.W PyProof.Rows PySem.Calls

noncomputable def Tlaw : List (Str × Nat) := nm ["script", "cell", "feed", "ops", "bags", "t", "way", "u", "is_due", "late", "told", "part"]
noncomputable def lawS : S := .asg 3 (.item (Tup [Lst [Sx "s"], Lst [Sx "p"], Lst [Sx "s", Sx "p"], Lst []]) (Call 9 [L 2, I 4])) <| .asg2 4 5 (.mk (L 3)) (Call 10 [L 2, I 3]) <| .asg 6 (Call 9 [L 2, I 4]) <| .asg 7 (.ite (.cmp .eq (L 6) (I 2)) (Call 12 [L 5]) (.ite (.cmp .eq (L 6) (I 3)) (Call 10 [L 2, I 2]) (Call 11 [L 2, Call 11 [L 2, L 5]]))) <| .asg 8 (.cmp .eq (Call 15 [L 3, L 5]) (Call 15 [L 3, L 7])) <| .asg 9 (Meth 6 (L 4) [L 5]) <| .ifS (.orE (.cmp .ne (Meth 7 (L 4) [L 5, L 7]) (L 8)) (.cmp .ne (.cmp .eq (L 9) (Meth 6 (L 4) [L 7])) (L 8))) (.ret (.lit (.bool false))) .nop <| .ifS (.orE (.cmp .ne (Call 15 [L 3, L 9]) (Call 15 [L 3, L 5])) (.orE (.cmp .ne (Meth 6 (L 4) [L 9]) (L 9)) (.notE (Call 18 [L 3, L 9])))) (.ret (.lit (.bool false))) .nop <| .ifS (.cmp .ne (.bi .list (Meth 4 (L 4) [Sx "s", L 5])) (.ite (.cmp .eq (.item (L 5) (I 0)) (Sx "s")) (Call 13 [L 3, L 5]) (Lst [L 5]))) (.ret (.lit (.bool false))) .nop <| .asg 10 (Meth 8 (L 4) [L 5]) <| .ifS (.orE (.cmp .ne (Call 15 [L 3, L 10]) (Call 15 [L 3, L 5])) (.cmp .ne (.comp (I 1) (.one 11) (Call 16 [L 10]) (.andE (.cmp .isIn (.item (L 11) (I 0)) (L 3)) (.cmp .gt (.bi .len (L 11)) (I 3)))) (Lst []))) (.ret (.lit (.bool false))) .nop <| .ret (.cmp .eq (.comp (I 1) (.one 11) (Call 16 [Meth 8 (L 4) [L 9]]) (.andE (.cmp .isIn (.item (L 11) (I 0)) (L 3)) (.andE (.cmp .eq (.bi .len (L 11)) (I 3)) (.andE (.cmp .eq (.item (.item (L 11) (I 1)) (I 0)) (.item (L 11) (I 0))) (.cmp .gt (.bi .len (.item (L 11) (I 1))) (I 2)))))) (Lst []))
noncomputable def cellE : E := .comp (.bin .mod (L 1) (I 5040)) (.one 1) (.slc (.upto 60) (L 0)) yes
noncomputable def restOf : List Stmt → List Stmt
  | _ :: r => r
  | [] => []
section
variable {prog : Program} {w : World} {h₀ : Heap} {c : Addr} {mg mb : Str → Option Value} {R : Nat → List V → Sg → Option (V × Sg)} {n : Nat}
set_option maxRecDepth 20000 in
set_option maxHeartbeats 1000000 in
theorem law_S (hW : (Wd.mk (gOf prog w h₀ c mg mb) adr gloF R n).Ok) : SndS ⟨gOf prog w h₀ c mg mb, adr, gloF, R, n⟩ (mkCx Tlaw (scOf (heapK w.params) 203)) (restOf (bodyOf (heapK w.params) 203)) lawS := by
  have hB := bag_ok (prog := prog) (w := w) (h₀ := h₀) (c := c) (mg := mg) (mb := mb)
  have hI := init_ok (prog := prog) (w := w) (h₀ := h₀) (c := c) (mg := mg) (mb := mb)
  obtain ⟨b, hb⟩ : ∃ b, restOf (bodyOf (heapK w.params) 203) = b := ⟨_, rfl⟩
  obtain ⟨sc, hsc⟩ : ∃ sc, scOf (heapK w.params) 203 = sc := ⟨_, rfl⟩
  rw [hb, hsc]
  conv at hb => lhs; whnf
  conv at hsc => lhs; whnf
  subst hb hsc
  exact (SndS.asg (asgB_of (by kernel_rfl)) (SndE.item (SndE.tup (SndEs.cons (SndE.lst (SndEs.cons SndE.str SndEs.nil)) (SndEs.cons (SndE.lst (SndEs.cons SndE.str SndEs.nil)) (SndEs.cons (SndE.lst (SndEs.cons SndE.str (SndEs.cons SndE.str SndEs.nil))) (SndEs.cons (SndE.lst SndEs.nil) SndEs.nil))))) (SndE.call hW (by kernel_rfl) (by kernel_rfl) (by kernel_rfl) (SndEs.cons (SndE.var (by kernel_rfl) (by kernel_rfl)) (SndEs.cons SndE.int SndEs.nil)))) (SndS.asg2 (locB_of (by kernel_rfl)) (locB_of (by kernel_rfl)) (by decide) (SndE.mk hW hB hI (by kernel_rfl) (by kernel_rfl) (by kernel_rfl) (SndE.var (by kernel_rfl) (by kernel_rfl))) (SndE.call hW (by kernel_rfl) (by kernel_rfl) (by kernel_rfl) (SndEs.cons (SndE.var (by kernel_rfl) (by kernel_rfl)) (SndEs.cons SndE.int SndEs.nil))) (SndS.asg (asgB_of (by kernel_rfl)) (SndE.call hW (by kernel_rfl) (by kernel_rfl) (by kernel_rfl) (SndEs.cons (SndE.var (by kernel_rfl) (by kernel_rfl)) (SndEs.cons SndE.int SndEs.nil))) (SndS.asg (asgB_of (by kernel_rfl)) (SndE.ite (SndB.cmp (SndE.var (by kernel_rfl) (by kernel_rfl)) SndE.int) (SndE.call hW (by kernel_rfl) (by kernel_rfl) (by kernel_rfl) (SndEs.cons (SndE.var (by kernel_rfl) (by kernel_rfl)) SndEs.nil)) (SndE.ite (SndB.cmp (SndE.var (by kernel_rfl) (by kernel_rfl)) SndE.int) (SndE.call hW (by kernel_rfl) (by kernel_rfl) (by kernel_rfl) (SndEs.cons (SndE.var (by kernel_rfl) (by kernel_rfl)) (SndEs.cons SndE.int SndEs.nil))) (SndE.call hW (by kernel_rfl) (by kernel_rfl) (by kernel_rfl) (SndEs.cons (SndE.var (by kernel_rfl) (by kernel_rfl)) (SndEs.cons (SndE.call hW (by kernel_rfl) (by kernel_rfl) (by kernel_rfl) (SndEs.cons (SndE.var (by kernel_rfl) (by kernel_rfl)) (SndEs.cons (SndE.var (by kernel_rfl) (by kernel_rfl)) SndEs.nil))) SndEs.nil))))) (SndS.asg (asgB_of (by kernel_rfl)) (SndE.cmp (SndE.call hW (by kernel_rfl) (by kernel_rfl) (by kernel_rfl) (SndEs.cons (SndE.var (by kernel_rfl) (by kernel_rfl)) (SndEs.cons (SndE.var (by kernel_rfl) (by kernel_rfl)) SndEs.nil))) (SndE.call hW (by kernel_rfl) (by kernel_rfl) (by kernel_rfl) (SndEs.cons (SndE.var (by kernel_rfl) (by kernel_rfl)) (SndEs.cons (SndE.var (by kernel_rfl) (by kernel_rfl)) SndEs.nil)))) (SndS.asg (asgB_of (by kernel_rfl)) (SndE.meth hW hB (SndE.var (by kernel_rfl) (by kernel_rfl)) (SndEs.cons (SndE.var (by kernel_rfl) (by kernel_rfl)) SndEs.nil) (by kernel_rfl) (by kernel_rfl) (by kernel_rfl)) (SndS.ifS (SndB.or (SndB.cmp (SndE.meth hW hB (SndE.var (by kernel_rfl) (by kernel_rfl)) (SndEs.cons (SndE.var (by kernel_rfl) (by kernel_rfl)) (SndEs.cons (SndE.var (by kernel_rfl) (by kernel_rfl)) SndEs.nil)) (by kernel_rfl) (by kernel_rfl) (by kernel_rfl)) (SndE.var (by kernel_rfl) (by kernel_rfl))) (SndB.or1 (SndB.cmp (SndE.cmp (SndE.var (by kernel_rfl) (by kernel_rfl)) (SndE.meth hW hB (SndE.var (by kernel_rfl) (by kernel_rfl)) (SndEs.cons (SndE.var (by kernel_rfl) (by kernel_rfl)) SndEs.nil) (by kernel_rfl) (by kernel_rfl) (by kernel_rfl))) (SndE.var (by kernel_rfl) (by kernel_rfl))))) (SndS.ret SndE.bool) SndS.nil (SndS.ifS (SndB.or (SndB.cmp (SndE.call hW (by kernel_rfl) (by kernel_rfl) (by kernel_rfl) (SndEs.cons (SndE.var (by kernel_rfl) (by kernel_rfl)) (SndEs.cons (SndE.var (by kernel_rfl) (by kernel_rfl)) SndEs.nil))) (SndE.call hW (by kernel_rfl) (by kernel_rfl) (by kernel_rfl) (SndEs.cons (SndE.var (by kernel_rfl) (by kernel_rfl)) (SndEs.cons (SndE.var (by kernel_rfl) (by kernel_rfl)) SndEs.nil)))) (SndB.or (SndB.cmp (SndE.meth hW hB (SndE.var (by kernel_rfl) (by kernel_rfl)) (SndEs.cons (SndE.var (by kernel_rfl) (by kernel_rfl)) SndEs.nil) (by kernel_rfl) (by kernel_rfl) (by kernel_rfl)) (SndE.var (by kernel_rfl) (by kernel_rfl))) (SndB.or1 (SndB.notE (SndB.plain (SndE.call hW (by kernel_rfl) (by kernel_rfl) (by kernel_rfl) (SndEs.cons (SndE.var (by kernel_rfl) (by kernel_rfl)) (SndEs.cons (SndE.var (by kernel_rfl) (by kernel_rfl)) SndEs.nil)))))))) (SndS.ret SndE.bool) SndS.nil (SndS.ifS (SndB.cmp (SndE.bi hW rfl (by kernel_rfl) (by kernel_rfl) (by kernel_rfl) (SndE.meth hW hB (SndE.var (by kernel_rfl) (by kernel_rfl)) (SndEs.cons SndE.str (SndEs.cons (SndE.var (by kernel_rfl) (by kernel_rfl)) SndEs.nil)) (by kernel_rfl) (by kernel_rfl) (by kernel_rfl))) (SndE.ite (SndB.cmp (SndE.item (SndE.var (by kernel_rfl) (by kernel_rfl)) SndE.int) SndE.str) (SndE.call hW (by kernel_rfl) (by kernel_rfl) (by kernel_rfl) (SndEs.cons (SndE.var (by kernel_rfl) (by kernel_rfl)) (SndEs.cons (SndE.var (by kernel_rfl) (by kernel_rfl)) SndEs.nil))) (SndE.lst (SndEs.cons (SndE.var (by kernel_rfl) (by kernel_rfl)) SndEs.nil)))) (SndS.ret SndE.bool) SndS.nil (SndS.asg (asgB_of (by kernel_rfl)) (SndE.meth hW hB (SndE.var (by kernel_rfl) (by kernel_rfl)) (SndEs.cons (SndE.var (by kernel_rfl) (by kernel_rfl)) SndEs.nil) (by kernel_rfl) (by kernel_rfl) (by kernel_rfl)) (SndS.ifS (SndB.or (SndB.cmp (SndE.call hW (by kernel_rfl) (by kernel_rfl) (by kernel_rfl) (SndEs.cons (SndE.var (by kernel_rfl) (by kernel_rfl)) (SndEs.cons (SndE.var (by kernel_rfl) (by kernel_rfl)) SndEs.nil))) (SndE.call hW (by kernel_rfl) (by kernel_rfl) (by kernel_rfl) (SndEs.cons (SndE.var (by kernel_rfl) (by kernel_rfl)) (SndEs.cons (SndE.var (by kernel_rfl) (by kernel_rfl)) SndEs.nil)))) (SndB.or1 (SndB.cmp (SndE.comp (comp1 (SndI.seq (SndE.call hW (by kernel_rfl) (by kernel_rfl) (by kernel_rfl) (SndEs.cons (SndE.var (by kernel_rfl) (by kernel_rfl)) SndEs.nil))) (by kernel_rfl) (tgt_one (by kernel_rfl)) SndE.int (SndB.and (SndB.cmp (SndE.item (SndE.var (by kernel_rfl) (by kernel_rfl)) SndE.int) (SndE.var (by kernel_rfl) (by kernel_rfl))) (SndB.and1 (SndB.cmp (SndE.bi hW rfl (by kernel_rfl) (by kernel_rfl) (by kernel_rfl) (SndE.var (by kernel_rfl) (by kernel_rfl))) SndE.int))))) (SndE.lst SndEs.nil)))) (SndS.ret SndE.bool) SndS.nil (SndS.ret (SndE.cmp (SndE.comp (comp1 (SndI.seq (SndE.call hW (by kernel_rfl) (by kernel_rfl) (by kernel_rfl) (SndEs.cons (SndE.meth hW hB (SndE.var (by kernel_rfl) (by kernel_rfl)) (SndEs.cons (SndE.var (by kernel_rfl) (by kernel_rfl)) SndEs.nil) (by kernel_rfl) (by kernel_rfl) (by kernel_rfl)) SndEs.nil))) (by kernel_rfl) (tgt_one (by kernel_rfl)) SndE.int (SndB.and (SndB.cmp (SndE.item (SndE.var (by kernel_rfl) (by kernel_rfl)) SndE.int) (SndE.var (by kernel_rfl) (by kernel_rfl))) (SndB.and (SndB.cmp (SndE.bi hW rfl (by kernel_rfl) (by kernel_rfl) (by kernel_rfl) (SndE.var (by kernel_rfl) (by kernel_rfl))) SndE.int) (SndB.and (SndB.cmp (SndE.item (SndE.item (SndE.var (by kernel_rfl) (by kernel_rfl)) SndE.int) SndE.int) (SndE.item (SndE.var (by kernel_rfl) (by kernel_rfl)) SndE.int)) (SndB.and1 (SndB.cmp (SndE.bi hW rfl (by kernel_rfl) (by kernel_rfl) (by kernel_rfl) (SndE.item (SndE.var (by kernel_rfl) (by kernel_rfl)) SndE.int)) SndE.int))))))) (SndE.lst SndEs.nil)))))))))))) (by rintro ⟨⟩ h; dsimp only at h; subst h; kernel_rfl)))
end
end Mine


end
noncomputable section
namespace Mine
open PySem PySem.W PyProof.Rows PySem.Calls

theorem ints_all {g : Heap} : ∀ {vs : List Value} {ns : List Int}, IntsAre vs ns → IsAll g vs (ns.map PyData.int)
  | _, _, .nil => .nil
  | _, _, .cons _ _ r => .cons .int (ints_all r)
noncomputable def rho0 (ns : List Int) : List Bnd := [.v (.d (.list (ns.map .int))), .un, .un, .un, .un, .un, .un, .un, .un, .un, .un, .un]
noncomputable def rho1 (ns : List Int) : List Bnd := [.v (.d (.list (ns.map .int))), .un, .v .feed, .un, .un, .un, .un, .un, .un, .un, .un, .un]
noncomputable def sig1 (cs : List PyData) : Sg := [(Str.ofString "cells", .list cs), (Str.ofString "spot", .int 0)]
theorem law_gam (P : Params) : (mkCx Tlaw (scOf (heapK P) 203)).Γ.all (fun p => decide (p.2 ≠ 0) || decide (p.1 = Str.ofString "script")) = true := by kernel_rfl
theorem law_cell (P : Params) : ((scOf (heapK P) 203).names.all fun p => decide (p.2 ≠ .cell) || decide (p.1 = Str.ofString "ops")) = true := by kernel_rfl
theorem law_free (P : Params) : ((scOf (heapK P) 203).names.all fun p => decide (p.2 ≠ .free)) = true := by kernel_rfl
theorem law_cells (P : Params) (n : Nat) : cellsFrom n (scOf (heapK P) 203).names [] = [(Str.ofString "ops", n)] := by kernel_rfl
theorem lookup_one {x y : Str} {a n : Addr} (h : [(y, n)].lookup x = some a) : x = y ∧ a = n := by
  rw [List.lookup_cons] at h
  by_cases e : x = y
  · subst e; simp at h; exact ⟨rfl, h.symm⟩
  · have : (x == y) = false := by simpa using e
    rw [this] at h; simp at h
noncomputable def compOf : List Stmt → Expr
  | .Assign _ (.Dict _ (x :: _) _) _ :: _ => x
  | _ => .Constant .none 0 default
section
variable {prog : Program} {w : World} {h₀ : Heap} {c : Addr} {mg mb : Str → Option Value} {R : Nat → List V → Sg → Option (V × Sg)} {n : Nat}
theorem law_comp : SndE ⟨gOf prog w h₀ c mg mb, adr, gloF, R, n⟩ (mkCx Tlaw (scOf (heapK w.params) 203)) (compOf (bodyOf (heapK w.params) 203)) cellE := by
  obtain ⟨b, hb⟩ : ∃ b, compOf (bodyOf (heapK w.params) 203) = b := ⟨_, rfl⟩
  rw [hb]
  conv at hb => lhs; whnf
  subst hb
  exact (SndE.comp (comp0 (SndI.seq (SndE.slc _ (SndE.var (by kernel_rfl) (by kernel_rfl)) (by constructor) (by constructor) (by constructor))) (by kernel_rfl) (tgt_one (by kernel_rfl)) (SndE.bin (SndE.var (by kernel_rfl) (by kernel_rfl)) SndE.int)))
theorem law_shape (P : Params) : ∃ p pos dpos q1 q2 q3 c1 c2 c3, bodyOf (heapK P) 203 = (.Assign [.Name (Str.ofString "feed") p] (.Dict [some (.Constant (.str (Str.ofString "cells")) c1 q1), some (.Constant (.str (Str.ofString "spot")) c2 q2)] [compOf (bodyOf (heapK P) 203), .Constant (.int 0) c3 q3] dpos) pos :: restOf (bodyOf (heapK P) 203)) :=
  ⟨_, _, _, _, _, _, _, _, _, rfl⟩
end
section
variable {prog : Program} {w : World} {s₁ : Shared} {h₁ : Heap} {tk : Nat} {mg mb m : Str → Option Value} {A : Around} {name : Str} {a : Addr} {cd : Value} {ax : Addr} {vs : List Value} {ns : List Int} {n : Nat} {cs : List PyData} {σ' : Sg} {body : List Stmt} {sc : Scope}
set_option maxHeartbeats 4000000 in
set_option maxRecDepth 20000 in
theorem law_start (hb : body = bodyOf (heapK w.params) 203) (hsc : sc = scOf (heapK w.params) 203) (hG : Glb (gOf prog w s₁.heap h₁.objs.size mg mb)) (rm : Room A n) (F : Fr s₁.heap s₁.heap.objs.size h₁ m) (hm : m (Str.ofString "script") = some (.ref ax)) (hl : s₁.heap.IsList ax vs.toArray) (hI : IntsAre vs ns)
    (hcell : ∃ ob x, h₁.get? (s₁.heap.objs.size + 1) = some ob ∧ ob.data = .cell x)
    (hc : ev gloF (run gloF fnT n) cellE (rho0 ns) [] = some ([.d (.list cs)], []))
    (hrun : evS gloF (run gloF fnT n) lawS (rho1 ns) (sig1 cs) = some (.ret (.d (.bool true)) σ')) :
    wpAny (model prog w) A (execs body (envOfC name sc s₁.heap.objs.size a cd))
      (fun fl s' => fl = .ret (.bool true) ∧ (∀ b o, s₁.heap.get? b = some o → s'.heap.get? b = some o) ∧ s'.os = s₁.os ∧ s'.gens = s₁.gens) (fun _ _ => False)
      { heap := h₁, gens := s₁.gens, drawn := s₁.drawn, toks := tk, os := s₁.os } := by
  have hW := all_ok hG n
  generalize hG0 : gOf prog w s₁.heap h₁.objs.size mg mb = G at *
  have hWG : (Wd.mk G adr gloF (run gloF fnT n) n).G = G := rfl
  obtain ⟨ob, xc, hoc, hcd⟩ := hcell
  have hS := hG0 ▸ law_S (prog := prog) (w := w) (h₀ := s₁.heap) (c := h₁.objs.size) (mg := mg) (mb := mb) (R := run gloF fnT n) (n := n) (hG0 ▸ hW)
  obtain ⟨e1, e2, e3, e4⟩ : G.prog = prog ∧ G.w = w ∧ G.h₀ = s₁.heap ∧ G.c = h₁.objs.size := by subst hG0; exact ⟨rfl, rfl, rfl, rfl⟩
  -- the places
  have hsz : s₁.heap.objs.size < h₁.objs.size := by
    obtain ⟨o, es, ep, ho, _⟩ := F.ns
    exact Heap.lt_size ho
  have hsz1 : s₁.heap.objs.size + 1 < h₁.objs.size := Heap.lt_size hoc
  have new : ∀ b, s₁.heap.objs.size ≤ b → s₁.heap.get? b = none := fun b hb => Heap.get?_none_of_le hb
  have keep : ∀ b o, h₁.get? b = some o → (h₁.push { cls := .type "dict", data := .dict #[] }).get? b = some o := fun b o e => Heap.get?_push_of_some _ e
  have inv : Inv G s₁.heap [] { heap := h₁.push { cls := .type "dict", data := .dict #[] }, gens := s₁.gens, drawn := s₁.drawn, toks := tk, os := s₁.os } := by
    refine ⟨by rw [e3]; exact Sub.rfl, fun b o e => keep b o (F.keep b o e), ?_, [], ?_, rfl, .nil, by simp⟩
    · rw [e4]; exact new _ (Nat.le_of_lt hsz)
    · rw [e4]; exact Heap.DictOf.new h₁
  have cellsE : (envOfC name sc s₁.heap.objs.size a cd).cells = [(Str.ofString "ops", s₁.heap.objs.size + 1)] := by rw [hsc]; exact law_cells w.params _
  have list0 : Is s₁.heap (.ref ax) (.list (ns.map .int)) := by
    obtain ⟨o, ho, hcl, k, hd⟩ := hl
    exact Is.list ho hcl hd (by simpa using ints_all hI)
  have nofree : ∀ x, (mkCx Tlaw (scOf (heapK w.params) 203)).kindOf x ≠ some .free := fun x e => by
    have := List.all_eq_true.mp (law_free w.params) _ (mem_of_lookup e)
    simp at this
  have opsOf : ∀ x, (mkCx Tlaw (scOf (heapK w.params) 203)).kindOf x = some .cell → x = Str.ofString "ops" := fun x e => by
    have := List.all_eq_true.mp (law_cell w.params) _ (mem_of_lookup e)
    simpa using this
  have unOnly : ∀ (i : Nat) (b : Bnd), (rho0 ns)[i]? = some b → b ≠ .un → i = 0 ∧ b = .v (.d (.list (ns.map .int))) := by
    intro i b h hb
    match i, h with
    | 0, h => simp [rho0] at h; exact ⟨rfl, h.symm⟩
    | i + 1, h =>
      exfalso
      have : b ∈ List.replicate 11 Bnd.un := List.mem_of_getElem? (i := i) (by simpa [rho0] using h)
      exact hb (List.eq_of_mem_replicate this)
  have eo : EnvOk G (mkCx Tlaw (scOf (heapK w.params) 203)) ⟨s₁.heap.objs.size, fun _ => 0⟩ s₁.heap (h₁.push { cls := .type "dict", data := .dict #[] }) (envOfC name sc s₁.heap.objs.size a cd) (rho0 ns) := by
    refine ⟨hsc, rfl, rfl, rfl, Nat.le_refl _, ?_, new _ (Nat.le_refl _), ⟨m, ?_, fun x j b h1 h2 h3 h4 => ?_⟩, fun x j b h1 h2 h3 h4 => ?_, fun x hx => ?_, fun x c e => ?_, fun x c _ e => ?_, fun j k b b' h1 h2 h3 h4 h5 => ?_, fun x y c h1 h2 => ?_⟩
    · rw [e4]; exact Nat.ne_of_lt hsz
    · exact F.ns.at' fun o e => keep _ o e
    · obtain ⟨rfl, rfl⟩ := unOnly j b h2 h3
      have := List.all_eq_true.mp (law_gam w.params) _ (mem_of_lookup h1)
      have hx : x = Str.ofString "script" := by simpa using this
      subst hx
      exact ⟨_, hm, list0⟩
    · obtain ⟨rfl, rfl⟩ := unOnly j b h2 h3
      have := List.all_eq_true.mp (law_gam w.params) _ (mem_of_lookup h1)
      have hx : x = Str.ofString "script" := by simpa using this
      subst hx
      rcases h4 with h4 | h4
      · have := opsOf _ h4
        exact absurd this (by decide +kernel)
      · exact absurd h4 (nofree _)
    · rcases hx with hx | hx
      · rw [opsOf x hx, cellsE]; exact ⟨_, by rw [List.lookup_cons, beq_self_eq_true]⟩
      · exact absurd hx (nofree _)
    · rw [cellsE] at e
      obtain ⟨_, rfl⟩ := lookup_one e
      refine ⟨by rw [e4]; exact Nat.ne_of_lt hsz1, new _ (Nat.le_succ _), xc, ob, keep _ _ hoc, hcd⟩
    · rw [cellsE] at e
      obtain ⟨_, rfl⟩ := lookup_one e
      exact Nat.le_succ _
    · obtain ⟨rfl, rfl⟩ := unOnly j b h1 (by rintro rfl; cases h3)
      cases h3
    · rw [cellsE] at h1 h2
      rw [(lookup_one h1).1, (lookup_one h2).1]
  subst hG0
  obtain ⟨p, pos, dpos, q1, q2, q3, c1, c2, c3, ee⟩ := law_shape w.params
  have hC := law_comp (prog := prog) (w := w) (h₀ := s₁.heap) (c := h₁.objs.size) (mg := mg) (mb := mb) (R := run gloF fnT n) (n := n)
  generalize compOf (bodyOf (heapK w.params) 203) = comp at *
  generalize restOf (bodyOf (heapK w.params) 203) = rest at *
  rw [hb, ee]
  exact feed_stmt (W := ⟨gOf prog w s₁.heap h₁.objs.size mg mb, adr, gloF, run gloF fnT n, n⟩) (s := { heap := h₁, gens := s₁.gens, drawn := s₁.drawn, toks := tk, os := s₁.os }) (e := cellE) (i := 2) rfl inv eo rm (Nat.le_refl _) (asgB_of (by kernel_rfl)) hC hc hS (by decide +kernel) hrun
end
end Mine

end
noncomputable section
namespace Mine
open PySem
open Tm

noncomputable def al : List Str := [Str.ofString "a", Str.ofString "b", Str.ofString "?x", Str.ofString "s", Str.ofString "f", Str.ofString "g", Str.ofString "p"]
noncomputable def goodA (t : Tm) : Prop := ∀ p ∈ pre t, p.op ∈ al
theorem al_noB : ∀ o ∈ al, noB o := by
  have : al.all (fun o => (cl o).all fun c => brk c == false) = true := by decide +kernel
  intro o ho c hc
  have := List.all_eq_true.mp this o ho
  have := List.all_eq_true.mp this c hc
  simpa using this
theorem al_lay : ∀ o ∈ al, PyData.strOk o = true := by
  have : al.all (fun o => PyData.strOk o) = true := by decide +kernel
  exact List.all_eq_true.mp this
theorem al_len : ∀ o ∈ al, o.length ≤ 2 := by
  have : al.all (fun o => decide (o.length ≤ 2)) = true := by decide +kernel
  intro o ho
  exact of_decide_eq_true (List.all_eq_true.mp this o ho)
theorem goodA.good {t : Tm} (g : goodA t) : good t := fun p hp => al_noB _ (g p hp)
theorem goodA.kid {o : Str} {l : List Tm} (g : goodA (.node o l)) {k : Tm} (hk : k ∈ l) : goodA k := fun p hp => g p (pre_kid hk hp)
theorem goodA.op {t : Tm} (g : goodA t) : t.op ∈ al := g t (pre_self t)
theorem depthAll_map {α : Type} {f : α → PyData} {n : Nat} : ∀ {l : List α}, (∀ x ∈ l, (f x).depth ≤ n) → PyData.depthAll (l.map f) ≤ n
  | [], _ => Nat.zero_le _
  | x :: l, h => by
    rw [List.map_cons, PyData.depthAll]
    have := h x (.head _)
    have := depthAll_map fun y hy => h y (.tail _ hy)
    (first | lia | omega)
theorem dps_mem : ∀ {l : List Tm} {k : Tm}, k ∈ l → dp k ≤ dps l
  | t :: l, k, h => by
    rw [dps]
    rcases List.mem_cons.mp h with rfl | h
    · (first | lia | omega)
    · have := dps_mem h; (first | lia | omega)
theorem depth_toD (t : Tm) : (toD t).depth ≤ dp t := by
  induction t using tmInd with
  | _ o l ih =>
    rw [toD, toDs_eq, PyData.depth, PyData.depthAll, dp]
    have := depthAll_map (f := toD) (n := dps l) fun x hx => Nat.le_trans (ih x hx) (dps_mem hx)
    have : PyData.depth (.str o) = 0 := rfl
    (first | lia | omega)
theorem layAll_map {α : Type} {f : α → PyData} : ∀ {l : List α}, (∀ x ∈ l, (f x).canLay0 = true) → PyData.canLayAll0 (l.map f) = true
  | [], _ => rfl
  | x :: l, h => by rw [List.map_cons, PyData.canLayAll0, h x (.head _), layAll_map fun y hy => h y (.tail _ hy)]; rfl
theorem lay_toD (t : Tm) : goodA t → (toD t).canLay0 = true := by
  induction t using tmInd with
  | _ o l ih =>
    intro g
    rw [toD, toDs_eq, PyData.canLay0, PyData.canLayAll0, layAll_map fun x hx => ih x hx (g.kid hx)]
    have : (PyData.str o).canLay0 = true := al_lay o g.op
    rw [this]; rfl
theorem ok_of {d : PyData} (h1 : d.canLay0 = true) (h2 : d.depth ≤ 64) : okD d = true := by
  unfold okD SeqAt.shaped
  rw [h1, decide_eq_true h2]; rfl
/-- what keeps within all limits -/
structure Bd (t : Tm) : Prop where
  g : goodA t
  s : sz t ≤ 400
  d : dp t ≤ 50
  l : lv t ≤ 60
theorem lvs_mem : ∀ {l : List Tm} {k : Tm}, k ∈ l → lv k ≤ lvs l
  | t :: l, k, h => by
    rw [lvs]
    rcases List.mem_cons.mp h with rfl | h
    · (first | lia | omega)
    · have := lvs_mem h; (first | lia | omega)
theorem lv_node {o : Str} {l : List Tm} (h : l ≠ []) : lv (.node o l) = lvs l := by
  cases l with
  | nil => exact absurd rfl h
  | cons t r => rw [lv, lvs]
theorem lv_kid {o : Str} {l : List Tm} {k : Tm} (hk : k ∈ l) : lv k ≤ lv (.node o l) := by
  rw [lv_node (List.ne_nil_of_mem hk)]; exact lvs_mem hk
theorem Bd.kid {o : Str} {l : List Tm} (b : Bd (.node o l)) {k : Tm} (hk : k ∈ l) : Bd k :=
  ⟨b.g.kid hk, by have := sz_kid (o := o) hk; have := b.s; (first | lia | omega), by have h := dps_mem hk; have := b.d; rw [dp] at this; (first | lia | omega), Nat.le_trans (lv_kid hk) b.l⟩
theorem Bd.ok {t : Tm} (b : Bd t) : okD (toD t) = true := ok_of (lay_toD t b.g) (Nat.le_trans (depth_toD t) (Nat.le_trans b.d (by decide)))
theorem len_szs : ∀ l : List Tm, l.length ≤ szs l
  | [] => Nat.le_refl _
  | t :: l => by rw [List.length_cons, szs]; have := sz_pos t; have := len_szs l; (first | lia | omega)
theorem Bd.len {o : Str} {l : List Tm} (b : Bd (.node o l)) : l.length ≤ 400 := by
  have := b.s
  have := len_szs l
  rw [sz] at *; (first | lia | omega)
noncomputable def eqT (t u : Tm) : Bool := PyData.eqv (toD t) (toD u)
theorem eqT_iff (t u : Tm) : eqT t u = true ↔ t = u :=
  (eqv_eq (toD t) (toD u) (gd_toD t) (gd_toD u)).trans ⟨toD_inj t u, fun e => e ▸ rfl⟩
theorem eqv_str (a b : Str) : PyData.eqv (.str a) (.str b) = decide (a = b) := by
  have := eqv_eq (.str a) (.str b) rfl rfl
  by_cases e : a = b
  · subst e; simpa using this.mpr rfl
  · have h : ¬ PyData.str a = .str b := fun q => e (by cases q; rfl)
    rw [decide_eq_false e]
    cases q : PyData.eqv (.str a) (.str b) with
    | false => rfl
    | true => exact absurd (this.mp q) h
noncomputable def opsD (ops : List Str) : PyData := .list (ops.map .str)
/-- the lists of ops -/
structure OpsOk (ops : List Str) : Prop where
  al : ∀ o ∈ ops, o ∈ Mine.al
  len : ops.length ≤ 2
theorem ok_str {o : Str} (h : o ∈ al) : okD (.str o) = true := ok_of (al_lay o h) (by simp [PyData.depth])
theorem OpsOk.ok {ops : List Str} (h : OpsOk ops) : okD (opsD ops) = true := by
  refine ok_of ?_ ?_
  · unfold opsD; rw [PyData.canLay0]; exact layAll_map fun x hx => al_lay x (h.al x hx)
  · unfold opsD; rw [PyData.depth]
    have := depthAll_map (f := PyData.str) (n := 0) (l := ops) fun x _ => Nat.le_refl _
    (first | lia | omega)
theorem any_ops (o : Str) : ∀ ops : List Str, ((ops.map PyData.str).any fun y => PyData.eqv y (.str o)) = ops.contains o
  | [] => rfl
  | x :: l => by
    rw [List.map_cons, List.any_cons, any_ops o l, List.contains_cons, eqv_str]
    congr 1
    by_cases e : x = o
    · subst e; simp
    · have e' : ¬ o = x := fun q => e q.symm
      simp [e, e']
theorem in_ops {ops : List Str} {o : Str} (h : OpsOk ops) (ho : o ∈ al) : cmpD .isIn (.str o) (opsD ops) = some (ops.contains o) := by
  show (if (okD (.str o) && okD (opsD ops)) = true then some _ else none) = _
  rw [ok_str ho, h.ok, if_pos (show (true && true) = true from rfl)]
  exact congrArg some (any_ops o ops)
theorem notin_ops {ops : List Str} {o : Str} (h : OpsOk ops) (ho : o ∈ al) : cmpD .notIn (.str o) (opsD ops) = some (!ops.contains o) := by
  show (if (okD (.str o) && okD (opsD ops)) = true then some _ else none) = _
  rw [ok_str ho, h.ok, if_pos (show (true && true) = true from rfl)]
  exact congrArg (fun b => some (!b)) (any_ops o ops)
theorem eq_str {a b : Str} (ha : a ∈ al) (hb : b ∈ al) : cmpD .eq (.str a) (.str b) = some (decide (a = b)) := by
  show (if (okD (.str a) && okD (.str b)) = true then some _ else none) = _
  rw [ok_str ha, ok_str hb, if_pos (show (true && true) = true from rfl), eqv_str]
theorem ne_str {a b : Str} (ha : a ∈ al) (hb : b ∈ al) : cmpD .ne (.str a) (.str b) = some (!decide (a = b)) := by
  show (if (okD (.str a) && okD (.str b)) = true then some _ else none) = _
  rw [ok_str ha, ok_str hb, if_pos (show (true && true) = true from rfl), eqv_str]
theorem mkI_nat {n : Nat} (h : n ≤ 100000) : mkI (n : Int) = some (.int n) := by
  unfold mkI intOk
  rw [if_pos]
  simp only [Bool.and_eq_true, decide_eq_true_eq]
  (first | lia | omega)
theorem mkL_ok {xs : List PyData} (h : xs.length ≤ 100000) : mkL xs = some (.list xs) := by
  unfold mkL; rw [if_pos (by unfold lim; (first | lia | omega))]
theorem mkT_ok {xs : List PyData} (h : xs.length ≤ 100000) : mkT xs = some (.tuple xs) := by
  unfold mkT; rw [if_pos (by unfold lim; (first | lia | omega))]
theorem len_toD {o : Str} {l : List Tm} (h : l.length ≤ 400) : biD .len (toD (.node o l)) = some (.int ((l.length + 1 : Nat) : Int)) := by
  rw [toD, toDs_eq]
  show mkI (((PyData.str o :: l.map toD).length : Nat) : Int) = _
  rw [List.length_cons, List.length_map]
  exact mkI_nat (by (first | lia | omega))
theorem item0_toD {o : Str} {l : List Tm} : itemD (toD (.node o l)) 0 = some (.str o) := by
  rw [toD]
  show (idx (toDs l).length.succ 0).bind _ = _
  unfold idx
  simp
theorem intOk_nat {n : Nat} (h : n ≤ 100000) : intOk (n : Int) = true := by
  unfold intOk
  simp only [Bool.and_eq_true, decide_eq_true_eq]
  (first | lia | omega)
theorem intOk_neg1 : intOk (-1) = true := by
  unfold intOk
  simp only [Bool.and_eq_true, decide_eq_true_eq]
  (first | lia | omega)
theorem intOk_neg2 : intOk (-2) = true := by
  unfold intOk
  simp only [Bool.and_eq_true, decide_eq_true_eq]
  (first | lia | omega)
noncomputable abbrev RR (n : Nat) := run gloF fnT n
noncomputable abbrev Ft := Nat → List V → Sg → Option (V × Sg)

/-! the rules of evaluation -/
section
variable {R : Ft} {ρ : List Bnd} {σ σ₁ σ₂ : Sg} {e es a b c it it2 : E} {v v' : V} {vs : List V} {x y d : PyData} {xs : List PyData} {r : Option Out} {S S₁ S₂ : Mine.S}
theorem e_loc {i : Nat} (h : ρ[i]? = some (.v v)) : ev gloF R (.loc i) ρ σ = some ([v], σ) := by simp only [ev, h]
theorem e_lit : ev gloF R (.lit d) ρ σ = some ([.d d], σ) := rfl
theorem e_nil : ev gloF R .nil ρ σ = some ([], σ) := rfl
theorem e_cons (h1 : ev gloF R e ρ σ = some ([v], σ₁)) (h2 : ev gloF R es ρ σ₁ = some (vs, σ₂)) : ev gloF R (.cons e es) ρ σ = some (v :: vs, σ₂) := by simp only [ev, h1, oneV, Option.bind_some, h2]
theorem e_tup (h : ev gloF R es ρ σ = some (vs, σ₁)) (hd : datas vs = some xs) (hm : xs.length ≤ 100000 := by simp) : ev gloF R (.tup es) ρ σ = some ([.d (.tuple xs)], σ₁) := by simp only [ev, h, Option.bind_some, hd, mkT_ok hm]
theorem e_lst (h : ev gloF R es ρ σ = some (vs, σ₁)) (hd : datas vs = some xs) (hm : xs.length ≤ 100000 := by simp) : ev gloF R (.lst es) ρ σ = some ([.d (.list xs)], σ₁) := by simp only [ev, h, Option.bind_some, hd, mkL_ok hm]
theorem e_item {k : Int} (h1 : ev gloF R e ρ σ = some ([.d x], σ₁)) (h2 : ev gloF R it ρ σ₁ = some ([.d (.int k)], σ₂)) (hk : intOk k = true) (h3 : itemD x k = some d) : ev gloF R (.item e it) ρ σ = some ([.d d], σ₂) := by simp only [ev, h1, h2, oneV, oneD, Option.bind_some, hk, h3, if_true]
theorem e_feed {k : Str} (h1 : ev gloF R e ρ σ = some ([.feed], σ₁)) (h3 : σ₁.lookup k = some d) : ev gloF R (.item e (.lit (.str k))) ρ σ = some ([.d d], σ₁) := by simp only [ev, h1, oneV, oneD, Option.bind_some, h3]
theorem e_slc {k : SK} (h1 : ev gloF R e ρ σ = some ([.d x], σ₁)) (h2 : slcD k x = some d) : ev gloF R (.slc k e) ρ σ = some ([.d d], σ₁) := by simp only [ev, h1, oneD, Option.bind_some, h2]
theorem e_ops (h1 : ev gloF R e ρ σ = some ([.me d], σ₁)) : ev gloF R (.ops e) ρ σ = some ([.d d], σ₁) := by simp only [ev, h1, oneV, Option.bind_some]
theorem e_call {f : Nat} (h : ev gloF R es ρ σ = some (vs, σ₁)) (hr : R f vs σ₁ = some (v, σ₂)) : ev gloF R (.call f es) ρ σ = some ([v], σ₂) := by simp only [ev, h, Option.bind_some, hr]
theorem e_meth {f : Nat} (h1 : ev gloF R e ρ σ = some ([.me d], σ₁)) (h : ev gloF R es ρ σ₁ = some (vs, σ₂)) {σ₃ : Sg} (hr : R f (.me d :: vs) σ₂ = some (v, σ₃)) : ev gloF R (.meth f e es) ρ σ = some ([v], σ₃) := by simp only [ev, h1, oneV, h, Option.bind_some, hr]
theorem e_bi {k : Bi} (h1 : ev gloF R e ρ σ = some ([.d x], σ₁)) (h2 : biD k x = some d) : ev gloF R (.bi k e) ρ σ = some ([.d d], σ₁) := by simp only [ev, h1, oneD, Option.bind_some, h2]
theorem e_mk (h1 : ev gloF R e ρ σ = some ([.d x], σ₁)) : ev gloF R (.mk e) ρ σ = some ([.me x], σ₁) := by simp only [ev, h1, oneD, Option.bind_some]
theorem e_bin {o : BOp} (h1 : ev gloF R a ρ σ = some ([.d x], σ₁)) (h2 : ev gloF R b ρ σ₁ = some ([.d y], σ₂)) (h3 : binD o x y = some d) : ev gloF R (.bin o a b) ρ σ = some ([.d d], σ₂) := by simp only [ev, h1, h2, oneD, Option.bind_some, h3]
theorem e_cmp {o : COp} {t : Bool} (h1 : ev gloF R a ρ σ = some ([.d x], σ₁)) (h2 : ev gloF R b ρ σ₁ = some ([.d y], σ₂)) (h3 : cmpD o x y = some t) : ev gloF R (.cmp o a b) ρ σ = some ([.d (.bool t)], σ₂) := by simp only [ev, h1, h2, oneD, Option.bind_some, h3]
theorem e_not {t : Bool} (h1 : ev gloF R a ρ σ = some ([.d (.bool t)], σ₁)) : ev gloF R (.notE a) ρ σ = some ([.d (.bool (!t))], σ₁) := by simp only [ev, h1, oneB, Option.bind_some]
theorem e_and {t u : Bool} (h1 : ev gloF R a ρ σ = some ([.d (.bool t)], σ₁)) (h2 : t = true → ev gloF R b ρ σ₁ = some ([.d (.bool u)], σ₁)) : ev gloF R (.andE a b) ρ σ = some ([.d (.bool (t && u))], σ₁) := by
  cases t with
  | true => simp only [ev, h1, h2 rfl, oneB, Option.bind_some, if_true, Bool.true_and]
  | false => simp only [ev, h1, oneB, Option.bind_some, Bool.false_and]; rfl
theorem e_or {t u : Bool} (h1 : ev gloF R a ρ σ = some ([.d (.bool t)], σ₁)) (h2 : t = false → ev gloF R b ρ σ₁ = some ([.d (.bool u)], σ₁)) : ev gloF R (.orE a b) ρ σ = some ([.d (.bool (t || u))], σ₁) := by
  cases t with
  | true => simp only [ev, h1, oneB, Option.bind_some, if_true, Bool.true_or]
  | false => simp only [ev, h1, h2 rfl, oneB, Option.bind_some, Bool.false_or]; rfl
theorem e_ite {t : Bool} (h1 : ev gloF R c ρ σ = some ([.d (.bool t)], σ₁)) (h2 : t = true → ev gloF R a ρ σ₁ = some ([v], σ₂)) (h3 : t = false → ev gloF R b ρ σ₁ = some ([v], σ₂)) : ev gloF R (.ite c a b) ρ σ = some ([v], σ₂) := by
  cases t with
  | true => simp only [ev, h1, h2 rfl, oneB, oneV, Option.bind_some, if_true]
  | false => simp only [ev, h1, h3 rfl, oneB, oneV, Option.bind_some]; rfl
theorem compGo_flat {α : Type} {f : PyData → Sg → Option (List PyData × Sg)} {m : α → PyData} {g : α → List PyData} : ∀ {l : List α}, (∀ z ∈ l, f (m z) σ = some (g z, σ)) → compGo f (l.map m) σ = some (l.flatMap g, σ)
  | [], _ => rfl
  | z :: l, h => by rw [List.map_cons, compGo, h z (.head _), Option.bind_some, compGo_flat fun w hw => h w (.tail _ hw), Option.bind_some, List.flatMap_cons]
theorem flatMap_one {α : Type} {g : α → PyData} : ∀ l : List α, (l.flatMap fun z => [g z]) = l.map g
  | [] => rfl
  | z :: l => by rw [List.flatMap_cons, flatMap_one l]; rfl
theorem oneL_list {xs : List PyData} (h : xs.length ≤ 100000) : oneL (some ([.d (.list xs)], σ)) = some (xs, σ) := by
  show (if xs.length ≤ lim then some (xs, σ) else none) = _
  rw [if_pos (by unfold lim; (first | lia | omega))]
theorem oneL_tup {xs : List PyData} (h : xs.length ≤ 100000) : oneL (some ([.d (.tuple xs)], σ)) = some (xs, σ) := by
  show (if xs.length ≤ lim then some (xs, σ) else none) = _
  rw [if_pos (by unfold lim; (first | lia | omega))]
/-- a comprehension with one clause -/
theorem e_comp {α : Type} {l : List α} {m g : α → PyData} {t : Tgt} (hi : oneL (ev gloF R it ρ σ) = some (l.map m, σ₁)) (hg : ∀ z ∈ l, ∃ ρ', bindT t (m z) ρ = some ρ' ∧ ev gloF R e ρ' σ₁ = some ([.d (g z)], σ₁)) (hl : l.length ≤ 100000) :
    ev gloF R (.comp e t it (.lit (.bool true))) ρ σ = some ([.d (.list (l.map g))], σ₁) := by
  simp only [ev, hi, Option.bind_some, oneB, if_true]
  rw [compGo_flat (g := fun z => [g z]) fun z hz => ?_, flatMap_one, Option.bind_some]
  · rw [mkL_ok (by rw [List.length_map]; exact hl), Option.bind_some]
  · obtain ⟨ρ', h1, h2⟩ := hg z hz
    simp only [h1, h2, Option.bind_some, oneD]
theorem flatMap_if {α : Type} {g : α → PyData} {p : α → Bool} : ∀ l : List α, (l.flatMap fun z => if p z = true then [g z] else []) = (l.filter p).map g
  | [] => rfl
  | z :: l => by
    rw [List.flatMap_cons, flatMap_if l, List.filter_cons]
    cases p z <;> rfl
theorem e_compIf {α : Type} {l : List α} {m g : α → PyData} {p : α → Bool} {t : Tgt} (hi : oneL (ev gloF R it ρ σ) = some (l.map m, σ₁)) (hg : ∀ z ∈ l, ∃ ρ', bindT t (m z) ρ = some ρ' ∧ ev gloF R c ρ' σ₁ = some ([.d (.bool (p z))], σ₁) ∧ (p z = true → ev gloF R e ρ' σ₁ = some ([.d (g z)], σ₁))) (hl : l.length ≤ 100000) :
    ev gloF R (.comp e t it c) ρ σ = some ([.d (.list ((l.filter p).map g))], σ₁) := by
  simp only [ev, hi, Option.bind_some]
  rw [compGo_flat (g := fun z => if p z = true then [g z] else []) fun z hz => ?_, flatMap_if, Option.bind_some]
  · rw [mkL_ok (by rw [List.length_map]; exact Nat.le_trans (List.length_filter_le _ _) hl), Option.bind_some]
  · obtain ⟨ρ', h1, h2, h3⟩ := hg z hz
    simp only [h1, h2, Option.bind_some, oneB]
    cases q : p z with
    | true => simp only [h3 q, oneD, Option.bind_some, if_true]
    | false => rfl
theorem e_comp2 {α β : Type} {l : List α} {m : α → PyData} {s : α → List β} {m2 g : β → PyData} {t t2 : Tgt} (hi : oneL (ev gloF R it ρ σ) = some (l.map m, σ₁)) (hg : ∀ z ∈ l, ∃ ρ', bindT t (m z) (clrT t2 ρ) = some ρ' ∧ oneL (ev gloF R it2 ρ' σ₁) = some ((s z).map m2, σ₁) ∧ ∀ w ∈ s z, ∃ ρ'', bindT t2 (m2 w) ρ' = some ρ'' ∧ ev gloF R e ρ'' σ₁ = some ([.d (g w)], σ₁)) (hl : (l.flatMap s).length ≤ 100000) :
    ev gloF R (.comp2 e t it t2 it2) ρ σ = some ([.d (.list ((l.flatMap s).map g))], σ₁) := by
  simp only [ev, hi, Option.bind_some]
  rw [compGo_flat (g := fun z => (s z).map g) fun z hz => ?_, Option.bind_some]
  · have : (l.flatMap fun z => (s z).map g) = (l.flatMap s).map g := by rw [List.map_flatMap]
    rw [this, mkL_ok (by rw [List.length_map]; exact hl), Option.bind_some]
  · obtain ⟨ρ', h1, h2, h3⟩ := hg z hz
    simp only [h1, h2, Option.bind_some]
    rw [compGo_flat (g := fun w => [g w]) fun w hw => ?_, flatMap_one]
    obtain ⟨ρ'', h4, h5⟩ := h3 w hw
    simp only [h4, h5, Option.bind_some, oneD]
theorem s_ret (h : ev gloF R e ρ σ = some ([v], σ₁)) : evS gloF R (.ret e) ρ σ = some (.ret v σ₁) := by simp only [evS, h, oneV, Option.bind_some]
theorem s_asg {i : Nat} (h : ev gloF R e ρ σ = some ([v], σ₁)) (k : evS gloF R S (ρ.set i (.v v)) σ₁ = r) : evS gloF R (.asg i e S) ρ σ = r := by simp only [evS, h, oneV, Option.bind_some, k]
theorem s_asg2 {i j : Nat} (h : ev gloF R a ρ σ = some ([v], σ₁)) (h' : ev gloF R b ρ σ₁ = some ([v'], σ₂)) (k : evS gloF R S ((ρ.set i (.v v)).set j (.v v')) σ₂ = r) : evS gloF R (.asg2 i j a b S) ρ σ = r := by simp only [evS, h, h', oneV, Option.bind_some, k]
theorem s_ifT {v' : Option Out} (h : ev gloF R c ρ σ = some ([.d (.bool true)], σ₁)) (k : thenS (evS gloF R S₁ ρ σ₁) (fun ρ' σ' => evS gloF R S ρ' σ') = r) : evS gloF R (.ifS c S₁ S₂ S) ρ σ = r := by simp only [evS, h, oneB, Option.bind_some, if_true, k]
theorem s_ifF (h : ev gloF R c ρ σ = some ([.d (.bool false)], σ₁)) (k : thenS (evS gloF R S₂ ρ σ₁) (fun ρ' σ' => evS gloF R S ρ' σ') = r) : evS gloF R (.ifS c S₁ S₂ S) ρ σ = r := by
  simp only [evS, h, oneB, Option.bind_some]; exact k
theorem run_of {n f : Nat} {m : FnM} (hf : fnT f = some m) (hl : vs.length = m.nargs) (h : evS gloF (RR n) m.body (vs.map .v ++ List.replicate m.nslots .un) σ = some (.ret v σ₁)) : RR (n + 1) f vs σ = some (v, σ₁) := by
  show run gloF fnT (n + 1) f vs σ = _
  simp only [run, hf, Option.bind_some, hl, if_true]
  rw [show run gloF fnT n = RR n from rfl, h]
end
theorem isBag_run {ops : List Str} (ho : OpsOk ops) {t : Tm} (b : Bd t) (n : Nat) (σ : Sg) : RR (n + 1) 3 [.me (opsD ops), .d (toD t)] σ = some (.d (.bool (bagT ops t)), σ) := by
  cases t with | node o l =>
  refine run_of rfl rfl (s_ret ?_)
  have : bagT ops (.node o l) = (ops.contains o && decide ((2 : Int) < ((l.length + 1 : Nat) : Int))) := by
    unfold bagT bag
    congr 1
    show decide (2 ≤ l.length) = _
    rw [decide_eq_decide]; (first | lia | omega)
  rw [this]
  exact e_and (e_cmp (e_item (e_loc rfl) e_lit (intOk_nat (n := 0) (by decide)) item0_toD) (e_ops (e_loc rfl)) (in_ops ho b.g.op)) fun _ => e_cmp (e_bi (e_loc rfl) (len_toD b.len)) e_lit rfl
end Mine

end
noncomputable section
namespace Mine
open PySem
open Tm

section
variable {R : Ft} {ρ ρ' : List Bnd} {σ σ₁ σ₂ : Sg} {e es a b c it it2 : E} {v v' : V} {vs : List V} {x y d : PyData} {xs ys : List PyData} {r : Option Out} {S S₁ S₂ : Mine.S} {o : Out}
theorem eL_list (h : ev gloF R it ρ σ = some ([.d (.list xs)], σ₁)) (hl : xs.length ≤ 100000) : oneL (ev gloF R it ρ σ) = some (xs, σ₁) := by rw [h]; exact oneL_list hl
theorem eL_tup (h : ev gloF R it ρ σ = some ([.d (.tuple xs)], σ₁)) (hl : xs.length ≤ 100000) : oneL (ev gloF R it ρ σ) = some (xs, σ₁) := by rw [h]; exact oneL_tup hl
theorem e_enum (h : ev gloF R e ρ σ = some ([.d (.tuple xs)], σ₁)) : ev gloF R (.enum e) ρ σ = some ([.d (.list (enumL 0 xs))], σ₁) := by simp only [ev, h, oneD, Option.bind_some]
theorem s_new {i : Nat} (h : ev gloF R e ρ σ = some (vs, σ₁)) (hd : datas vs = some xs) (hm : xs.length ≤ 100000) (hn : (ρ.set i .un).any ownB = false) (k : evS gloF R S (ρ.set i (.own xs)) σ₁ = r) : evS gloF R (.new i e S) ρ σ = r := by
  simp only [evS, h, Option.bind_some, hd, mkL_ok hm, hn]
  exact k
theorem s_frz {i : Nat} (h : ρ[i]? = some (.own xs)) (k : evS gloF R S (ρ.set i (.v (.d (.list xs)))) σ = r) : evS gloF R (.frz i S) ρ σ = r := by
  simp only [evS, h, k]
theorem s_ext {i : Nat} (h0 : ρ[i]? = some (.own xs)) (h : ev gloF R e ρ σ = some ([.d (.list ys)], σ₁)) (hm : (xs ++ ys).length ≤ 100000) (k : evS gloF R S (ρ.set i (.own (xs ++ ys))) σ₁ = r) : evS gloF R (.ext i e S) ρ σ = r := by
  simp only [evS, h0, h, Option.bind_some, mkL_ok hm, k]
theorem s_for {t : Tgt} (h : oneL (ev gloF R it ρ σ) = some (xs, σ₁)) (hgo : forGo (fun x ρ σ => (bindT t x ρ).bind fun ρ' => evS gloF R S₁ ρ' σ) xs ρ σ₁ = some (.next ρ' σ₂)) (k : evS gloF R S ρ' σ₂ = r) : evS gloF R (.forS t it S₁ S) ρ σ = r := by
  simp only [evS, h, Option.bind_some]
  rw [hgo]
  exact k
end
theorem from1_toD {o : Str} {l : List Tm} (h : l.length ≤ 400) : slcD .from1 (toD (.node o l)) = some (.tuple (l.map toD)) := by
  rw [toD, toDs_eq]
  show (if 1 ≤ (PyData.str o :: l.map toD).length ∧ (PyData.str o :: l.map toD).length ≤ lim then _ else _) = _
  rw [if_pos ⟨by simp, by rw [List.length_cons, List.length_map]; unfold lim; (first | lia | omega)⟩]
  rfl
theorem pres_len : ∀ l : List Tm, (pres l).length = szs l := by
  have h : ∀ t : Tm, (pre t).length = sz t := by
    intro t
    induction t using tmInd with
    | _ o l ih =>
      rw [pre, sz, List.length_cons]
      congr 1
      induction l with
      | nil => rfl
      | cons x l ihl => rw [pres, szs, List.length_append, ih x (.head _), ihl fun k hk => ih k (.tail _ hk)]
  intro l
  induction l with
  | nil => rfl
  | cons x l ih => rw [pres, szs, List.length_append, h, ih]
theorem pre_len (t : Tm) : (pre t).length = sz t := by
  cases t with | node o l => rw [pre, sz, List.length_cons, pres_len]

/-! parts -/
mutual
noncomputable def partsP : Tm → List (List Int × Tm)
  | .node o l => ([], .node o l) :: partsPs 0 l
noncomputable def partsPs (k : Nat) : List Tm → List (List Int × Tm)
  | [] => []
  | t :: l => (partsP t).map (fun p => ((k : Int) :: p.1, p.2)) ++ partsPs (k + 1) l
end
noncomputable def partD (p : List Int × Tm) : PyData := .tuple [.tuple (p.1.map .int), toD p.2]
theorem partsPs_snd : ∀ (l : List Tm) (k : Nat), (∀ t ∈ l, (partsP t).map (·.2) = pre t) → (partsPs k l).map (·.2) = pres l
  | [], _, _ => rfl
  | t :: l, k, h => by
    rw [partsPs, pres, List.map_append, List.map_map, partsPs_snd l (k + 1) fun x hx => h x (.tail _ hx), ← h t (.head _)]
    rfl
theorem partsP_snd (t : Tm) : (partsP t).map (·.2) = pre t := by
  induction t using tmInd with
  | _ o l ih => rw [partsP, pre, List.map_cons, partsPs_snd l 0 ih]
theorem partsP_len (t : Tm) : (partsP t).length = sz t := by
  have := congrArg List.length (partsP_snd t)
  rw [List.length_map, pre_len] at this; exact this
theorem partsPs_len (l : List Tm) (k : Nat) : (partsPs k l).length = szs l := by
  have := congrArg List.length (partsPs_snd l k fun t _ => partsP_snd t)
  rw [List.length_map, pres_len] at this; exact this
theorem path_len (t : Tm) : ∀ p ∈ partsP t, p.1.length ≤ sz t := by
  induction t using tmInd with
  | _ o l ih =>
    intro p hp
    rw [partsP] at hp
    rcases List.mem_cons.mp hp with rfl | hp
    · exact Nat.zero_le _
    · rw [sz]
      have : ∀ (l : List Tm) (k : Nat), (∀ t ∈ l, ∀ p ∈ partsP t, p.1.length ≤ sz t) → ∀ p ∈ partsPs k l, p.1.length ≤ szs l + 1 := by
        intro l
        induction l with
        | nil => intro k _ p hp; cases hp
        | cons t l ihl =>
          intro k h p hp
          rw [partsPs] at hp
          rw [szs]
          rcases List.mem_append.mp hp with hp | hp
          · obtain ⟨q, hq, rfl⟩ := List.mem_map.mp hp
            have := h t (.head _) q hq
            show ((k : Int) :: q.1).length ≤ _
            rw [List.length_cons]; (first | lia | omega)
          · have := ihl (k + 1) (fun x hx => h x (.tail _ hx)) p hp
            (first | lia | omega)
      exact this l 0 ih p hp
theorem parts_loop {n : Nat} {T : PyData} {σ : Sg} : ∀ (l : List Tm) (k : Nat) (acc : List PyData) (b2 b3 : Bnd), (∀ t ∈ l, RR n 0 [.d (toD t)] σ = some (.d (.list ((partsP t).map partD)), σ)) → (∀ t ∈ l, sz t ≤ 400) → acc.length + szs l ≤ 1000 →
    ∃ b2' b3', forGo (fun x ρ σ => (bindT (.two 2 3) x ρ).bind fun ρ' => evS gloF (RR n) (.ext 1 (.comp (Tup [.bin .add (Tup [L 2]) (L 4), L 5]) (.two 4 5) (Call 0 [L 3]) yes) .nop) ρ' σ) (enumL k (l.map toD)) [.v (.d T), .own acc, b2, b3, .un, .un] σ =
      some (.next [.v (.d T), .own (acc ++ (partsPs k l).map partD), b2', b3', .un, .un] σ)
  | [], k, acc, b2, b3, _, _, _ => ⟨b2, b3, by simp [enumL, forGo, partsPs]⟩
  | t :: l, k, acc, b2, b3, h, hs, hz => by
    rw [szs] at hz
    have hl := partsP_len t
    obtain ⟨c2, c3, ih⟩ := parts_loop l (k + 1) (acc ++ ((partsP t).map fun p => ((k : Int) :: p.1, p.2)).map partD) (.v (.d (.int k))) (.v (.d (toD t))) (fun x hx => h x (.tail _ hx)) (fun x hx => hs x (.tail _ hx)) (by rw [List.length_append, List.length_map, List.length_map, hl]; (first | lia | omega))
    refine ⟨c2, c3, ?_⟩
    rw [List.map_cons, enumL, forGo]
    have hst := hs t (.head _)
    have step : evS gloF (RR n) (.ext 1 (.comp (Tup [.bin .add (Tup [L 2]) (L 4), L 5]) (.two 4 5) (Call 0 [L 3]) yes) .nop) [.v (.d T), .own acc, .v (.d (.int k)), .v (.d (toD t)), .un, .un] σ = some (.next [.v (.d T), .own (acc ++ ((partsP t).map fun p => ((k : Int) :: p.1, p.2)).map partD), .v (.d (.int k)), .v (.d (toD t)), .un, .un] σ) := by
      refine s_ext (xs := acc) (ys := ((partsP t).map fun p => ((k : Int) :: p.1, p.2)).map partD) rfl ?_ (by rw [List.length_append, List.length_map, List.length_map, hl]; (first | lia | omega)) rfl
      rw [List.map_map]
      refine e_comp (l := partsP t) (m := partD) ?_ (fun p hp => ?_) (by (first | lia | omega))
      · exact eL_list (e_call (e_cons (e_loc rfl) e_nil) (h t (.head _))) (by rw [List.length_map]; (first | lia | omega))
      · refine ⟨_, rfl, ?_⟩
        have hp := path_len t p hp
        refine e_tup (e_cons (e_bin (e_tup (e_cons (e_loc rfl) e_nil) rfl) (e_loc rfl) (show mkT _ = _ from mkT_ok ?_)) (e_cons (e_loc rfl) e_nil)) ?_
        · rw [List.length_append, List.length_map]
          simp only [List.length_cons, List.length_nil]
          (first | lia | omega)
        · rfl
    show ((bindT (.two 2 3) (.tuple [.int k, toD t]) _).bind _).bind _ = _
    rw [show bindT (.two 2 3) (.tuple [.int k, toD t]) [.v (.d T), .own acc, b2, b3, .un, .un] = some [.v (.d T), .own acc, .v (.d (.int k)), .v (.d (toD t)), .un, .un] from rfl, Option.bind_some, step, Option.bind_some]
    show forGo _ _ _ _ = _
    rw [ih, partsPs, List.map_append, List.append_assoc]
theorem parts_run (t : Tm) : Bd t → ∀ n σ, sz t ≤ n → RR n 0 [.d (toD t)] σ = some (.d (.list ((partsP t).map partD)), σ) := by
  induction t using tmInd with
  | _ o l ih =>
    intro b n σ hn
    obtain ⟨n, rfl⟩ : ∃ k, n = k + 1 := ⟨n - 1, by have := sz_pos (.node o l); (first | lia | omega)⟩
    have hb := b.s
    rw [sz] at hn hb
    obtain ⟨b2, b3, hgo⟩ := parts_loop (n := n) (T := toD (.node o l)) (σ := σ) l 0 [.tuple [.tuple [], toD (.node o l)]] .un .un (fun k hk => ih k hk (b.kid hk) n σ (by have := szs_mem hk; (first | lia | omega))) (fun k hk => (b.kid hk).s) (by simp only [List.length_cons, List.length_nil]; (first | lia | omega))
    refine run_of rfl rfl (s_new (xs := [.tuple [.tuple [], toD (.node o l)]]) (e_cons (e_tup (e_cons (e_tup e_nil rfl) (e_cons (e_loc rfl) e_nil)) rfl) e_nil) rfl (by simp) rfl (s_for ?_ hgo (s_frz rfl (s_ret (e_loc ?_)))))
    · exact eL_list (e_enum (e_slc (e_loc rfl) (from1_toD b.len))) (by rw [enumL_length, List.length_map]; have := b.len; (first | lia | omega))
    · show some _ = _
      rw [partsP, List.map_cons]; rfl
end Mine

end
noncomputable section
namespace Mine
open PySem
open Tm

/-! bounds -/
theorem goodA_ks {t k : Tm} (g : goodA t) (h : k ∈ t.ks) : goodA k := by cases t with | node o l => exact g.kid h
theorem Bd.pre {t : Tm} (b : Bd t) : ∀ p ∈ Mine.pre t, Bd p := by
  induction t using tmInd with
  | _ o l ih =>
    intro p hp
    rw [Mine.pre, pres_eq] at hp
    rcases List.mem_cons.mp hp with rfl | hp
    · exact b
    · obtain ⟨k, hk, hp⟩ := List.mem_flatMap.mp hp
      exact ih k hk (b.kid hk) p hp
theorem lv_pos (t : Tm) : 1 ≤ lv t := by
  induction t using tmInd with
  | _ o l ih =>
    cases l with
    | nil => rw [lv]; exact Nat.le_refl _
    | cons t r => rw [lv]; have := ih t (.head _); (first | lia | omega)
theorem len_lvs : ∀ l : List Tm, l.length ≤ lvs l
  | [] => Nat.le_refl _
  | t :: l => by rw [List.length_cons, lvs]; have := lv_pos t; have := len_lvs l; (first | lia | omega)
theorem szs_append : ∀ a b : List Tm, szs (a ++ b) = szs a + szs b
  | [], b => by rw [List.nil_append, szs, Nat.zero_add]
  | t :: a, b => by rw [List.cons_append, szs, szs, szs_append a b, Nat.add_assoc]
theorem lvs_append : ∀ a b : List Tm, lvs (a ++ b) = lvs a + lvs b
  | [], b => by rw [List.nil_append, lvs, Nat.zero_add]
  | t :: a, b => by rw [List.cons_append, lvs, lvs, lvs_append a b, Nat.add_assoc]
theorem dps_append : ∀ a b : List Tm, dps (a ++ b) = max (dps a) (dps b)
  | [], b => by rw [List.nil_append, dps, Nat.zero_max]
  | t :: a, b => by rw [List.cons_append, dps, dps, dps_append a b, Nat.max_assoc]
theorem szs_perm {a b : List Tm} (p : a.Perm b) : szs a = szs b := by
  induction p with
  | nil => rfl
  | cons x _ ih => rw [szs, szs, ih]
  | swap x y l => rw [szs, szs, szs, szs]; exact Nat.add_left_comm ..
  | trans _ _ h1 h2 => exact h1.trans h2
theorem lvs_perm {a b : List Tm} (p : a.Perm b) : lvs a = lvs b := by
  induction p with
  | nil => rfl
  | cons x _ ih => rw [lvs, lvs, ih]
  | swap x y l => rw [lvs, lvs, lvs, lvs]; exact Nat.add_left_comm ..
  | trans _ _ h1 h2 => exact h1.trans h2
theorem dps_perm {a b : List Tm} (p : a.Perm b) : dps a = dps b := by
  induction p with
  | nil => rfl
  | cons x _ ih => rw [dps, dps, ih]
  | swap x y l => rw [dps, dps, dps, dps]; exact Nat.max_left_comm ..
  | trans _ _ h1 h2 => exact h1.trans h2
theorem szs_map {f : Tm → Tm} : ∀ {l : List Tm}, (∀ x ∈ l, sz (f x) ≤ sz x) → szs (l.map f) ≤ szs l
  | [], _ => Nat.le_refl _
  | t :: l, h => by rw [List.map_cons, szs, szs]; have := h t (.head _); have := szs_map fun x hx => h x (.tail _ hx); (first | lia | omega)
theorem lvs_map {f : Tm → Tm} : ∀ {l : List Tm}, (∀ x ∈ l, lv (f x) ≤ lv x) → lvs (l.map f) ≤ lvs l
  | [], _ => Nat.le_refl _
  | t :: l, h => by rw [List.map_cons, lvs, lvs]; have := h t (.head _); have := lvs_map fun x hx => h x (.tail _ hx); (first | lia | omega)
theorem dps_map {f : Tm → Tm} : ∀ {l : List Tm}, (∀ x ∈ l, dp (f x) ≤ dp x) → dps (l.map f) ≤ dps l
  | [], _ => Nat.le_refl _
  | t :: l, h => by rw [List.map_cons, dps, dps]; have := h t (.head _); have := dps_map fun x hx => h x (.tail _ hx); (first | lia | omega)
theorem szs_flat {f : Tm → List Tm} : ∀ {l : List Tm}, (∀ x ∈ l, szs (f x) ≤ sz x) → szs (l.flatMap f) ≤ szs l
  | [], _ => Nat.le_refl _
  | t :: l, h => by rw [List.flatMap_cons, szs_append, szs]; have := h t (.head _); have := szs_flat fun x hx => h x (.tail _ hx); (first | lia | omega)
theorem lvs_flat {f : Tm → List Tm} : ∀ {l : List Tm}, (∀ x ∈ l, lvs (f x) ≤ lv x) → lvs (l.flatMap f) ≤ lvs l
  | [], _ => Nat.le_refl _
  | t :: l, h => by rw [List.flatMap_cons, lvs_append, lvs]; have := h t (.head _); have := lvs_flat fun x hx => h x (.tail _ hx); (first | lia | omega)
theorem dps_flat {f : Tm → List Tm} : ∀ {l : List Tm}, (∀ x ∈ l, dps (f x) ≤ dp x) → dps (l.flatMap f) ≤ dps l
  | [], _ => Nat.le_refl _
  | t :: l, h => by rw [List.flatMap_cons, dps_append, dps]; have := h t (.head _); have := dps_flat fun x hx => h x (.tail _ hx); (first | lia | omega)
theorem lvs_le {o : Str} {l : List Tm} : lvs l ≤ lv (.node o l) := by
  cases l with
  | nil => rw [lvs]; exact Nat.zero_le _
  | cons t r => rw [lv, lvs]; exact Nat.le_refl _
section
variable (ops : List Str)
theorem sel_bounds (o : Str) (t : Tm) : szs (sel ops o t) ≤ sz t ∧ lvs (sel ops o t) ≤ lv t ∧ dps (sel ops o t) ≤ dp t := by
  induction t using tmInd with
  | _ o' l ih =>
    by_cases h : notBag ops o (.node o' l)
    · rw [sel_not ops h, szs, lvs, dps, szs, lvs, dps]
      (first | lia | omega)
    · unfold notBag at h
      simp only [Classical.not_imp, Classical.not_not] at h
      obtain ⟨h1, h2⟩ := h
      have h1 : o' = o := h1
      subst h1
      rw [sel_bag ops (show bag ops o' l = true from h2)]
      have a := szs_flat (f := sel ops o') fun x hx => (ih x hx).1
      have b := lvs_flat (f := sel ops o') fun x hx => (ih x hx).2.1
      have c := dps_flat (f := sel ops o') fun x hx => (ih x hx).2.2
      have d := lvs_le (o := o') (l := l)
      rw [sz, dp]
      (first | lia | omega)
theorem flat_bounds {t : Tm} (h : bagT ops t = true) : szs (flat ops t) < sz t ∧ lvs (flat ops t) ≤ lv t ∧ dps (flat ops t) < dp t := by
  cases t with | node o l =>
  rw [flat_bag ops h]
  show szs (l.flatMap (sel ops o)) < _ ∧ lvs (l.flatMap (sel ops o)) ≤ _ ∧ dps (l.flatMap (sel ops o)) < _
  have a := szs_flat (l := l) (f := sel ops o) fun x hx => (sel_bounds ops o x).1
  have b := lvs_flat (l := l) (f := sel ops o) fun x hx => (sel_bounds ops o x).2.1
  have c := dps_flat (l := l) (f := sel ops o) fun x hx => (sel_bounds ops o x).2.2
  have d := lvs_le (o := o) (l := l)
  rw [sz, dp]
  (first | lia | omega)
theorem normal_bounds (t : Tm) : sz (normal ops t) ≤ sz t ∧ lv (normal ops t) ≤ lv t ∧ dp (normal ops t) ≤ dp t := by
  induction t using strong with
  | h t ih =>
    by_cases hb : bagT ops t = true
    · rw [normal_flat ops hb]
      have p := sortT_perm ((flat ops t).map (normal ops))
      have f := flat_bounds ops hb
      have a := szs_map (f := normal ops) (l := flat ops t) fun x hx => (ih x (flat_sz ops hb hx)).1
      have b := lvs_map (f := normal ops) (l := flat ops t) fun x hx => (ih x (flat_sz ops hb hx)).2.1
      have c := dps_map (f := normal ops) (l := flat ops t) fun x hx => (ih x (flat_sz ops hb hx)).2.2
      have hne : sortT ((flat ops t).map (normal ops)) ≠ [] := by
        intro e
        have := p.length_eq
        rw [e, List.length_map] at this
        have := flat_two ops hb
        simp at *; (first | lia | omega)
      rw [sz, lv_node hne, dp, szs_perm p, lvs_perm p, dps_perm p]
      (first | lia | omega)
    · rw [normal_not ops hb]
      cases t with | node o l =>
      have a := szs_map (f := normal ops) (l := l) fun x hx => (ih x (sz_kid hx)).1
      have b := lvs_map (f := normal ops) (l := l) fun x hx => (ih x (sz_kid hx)).2.1
      have c := dps_map (f := normal ops) (l := l) fun x hx => (ih x (sz_kid hx)).2.2
      show sz (.node o (l.map (normal ops))) ≤ _ ∧ lv (.node o (l.map (normal ops))) ≤ _ ∧ dp (.node o (l.map (normal ops))) ≤ _
      refine ⟨by rw [sz, sz]; (first | lia | omega), ?_, by rw [dp, dp]; (first | lia | omega)⟩
      cases l with
      | nil => exact Nat.le_refl _
      | cons x r =>
        rw [lv_node (by simp), lv_node (by simp)]; exact b
theorem normal_goodA (t : Tm) : goodA t → goodA (normal ops t) := by
  induction t using strong with
  | h t ih =>
    intro g p hp
    by_cases hb : bagT ops t = true
    · rw [normal_flat ops hb, pre, pres_eq] at hp
      rcases List.mem_cons.mp hp with rfl | hp
      · exact g.op
      · obtain ⟨k, hk, hp⟩ := List.mem_flatMap.mp hp
        obtain ⟨y, hy, rfl⟩ := List.mem_map.mp ((sortT_perm _).mem_iff.mp hk)
        exact ih y (flat_sz ops hb hy) (fun q hq => g q (flat_pre ops hb hy q hq)) p hp
    · rw [normal_not ops hb, pre, pres_eq] at hp
      rcases List.mem_cons.mp hp with rfl | hp
      · exact g.op
      · obtain ⟨k, hk, hp⟩ := List.mem_flatMap.mp hp
        obtain ⟨y, hy, rfl⟩ := List.mem_map.mp hk
        exact ih y (ks_sz hy) (goodA_ks g hy) p hp
theorem Bd.normal {t : Tm} (b : Bd t) : Bd (normal ops t) := by
  obtain ⟨h1, h2, h3⟩ := normal_bounds ops t
  exact ⟨normal_goodA ops t b.g, Nat.le_trans h1 b.s, Nat.le_trans h3 b.d, Nat.le_trans h2 b.l⟩
theorem dps_mem' {l : List Tm} {k : Tm} (h : k ∈ l) : dp k ≤ dps l := dps_mem h
theorem Bd.sel {o : Str} {t : Tm} (b : Bd t) : ∀ x ∈ sel ops o t, Bd x := fun x hx => by
  obtain ⟨h1, h2, h3⟩ := sel_bounds ops o t
  exact ⟨fun p hp => b.g p (sel_pre ops o t x hx p hp), Nat.le_trans (sel_sz ops o t x hx) b.s, Nat.le_trans (dps_mem hx) (Nat.le_trans h3 b.d), Nat.le_trans (lvs_mem hx) (Nat.le_trans h2 b.l)⟩
theorem Bd.flat {t : Tm} (b : Bd t) (h : bagT ops t = true) : ∀ x ∈ flat ops t, Bd x := fun x hx => by
  have e : Mine.flat ops t = Mine.sel ops t.op t := by unfold Mine.sel; rw [if_pos rfl]
  rw [e] at hx
  exact b.sel ops x hx
end
end Mine

end
noncomputable section
namespace Mine
open PySem
open Tm

theorem item0 (t : Tm) : itemD (toD t) 0 = some (.str t.op) := by cases t with | node o l => exact item0_toD
theorem len_tm {t : Tm} (b : Bd t) : biD .len (toD t) = some (.int ((t.ks.length + 1 : Nat) : Int)) := by cases t with | node o l => exact len_toD b.len
theorem from1 {t : Tm} (b : Bd t) : slcD .from1 (toD t) = some (.tuple (t.ks.map toD)) := by cases t with | node o l => exact from1_toD b.len
theorem ks_len {t : Tm} (b : Bd t) : t.ks.length ≤ 400 := by cases t with | node o l => exact b.len
theorem intOk0 : intOk 0 = true := intOk_nat (n := 0) (by decide)
theorem keyOf_run {t : Tm} (b : Bd t) (n : Nat) (σ : Sg) (hn : sz t + 1 ≤ n) : RR n 1 [.d (toD t)] σ = some (.d (keyD t), σ) := by
  obtain ⟨n, rfl⟩ : ∃ k, n = k + 1 := ⟨n - 1, by (first | lia | omega)⟩
  have hp := parts_run t b n σ (by (first | lia | omega))
  have hl := partsP_len t
  have hs := b.s
  have e1 : (partsP t).map (fun p => toD p.2) = (pre t).map toD := by rw [← partsP_snd t, List.map_map]; rfl
  have hpl := pre_len t
  refine run_of rfl rfl (s_asg (σ₁ := σ) (v := .d (.list ((partsP t).map fun p => toD p.2))) ?_ (s_ret ?_))
  · refine e_comp (l := partsP t) (m := partD) (g := fun p => toD p.2) (eL_list (e_call (e_cons (e_loc rfl) e_nil) hp) (by rw [List.length_map]; (first | lia | omega))) (fun p _ => ⟨_, rfl, e_loc rfl⟩) (by (first | lia | omega))
  · rw [e1]
    have c1 : biD .len (.list ((pre t).map toD)) = some (.int ((pre t).length : Int)) := by
      show mkI ((((pre t).map toD).length : Nat) : Int) = _
      rw [List.length_map]
      exact mkI_nat (by (first | lia | omega))
    have c2 : biD .tuple (.list ((pre t).map fun p => .str p.op)) = some (.tuple ((pre t).map fun p => .str p.op)) := mkT_ok (by rw [List.length_map]; (first | lia | omega))
    have c3 : biD .tuple (.list ((pre t).map fun p => .int (p.ks.length : Int))) = some (.tuple ((pre t).map fun p => .int (p.ks.length : Int))) := mkT_ok (by rw [List.length_map]; (first | lia | omega))
    refine e_tup (xs := [.int ((pre t).length : Int), .tuple ((pre t).map fun p => .str p.op), .tuple ((pre t).map fun p => .int (p.ks.length : Int))]) (vs := [.d (.int ((pre t).length : Int)), .d (.tuple ((pre t).map fun p => .str p.op)), .d (.tuple ((pre t).map fun p => .int (p.ks.length : Int)))]) ?_ rfl
    refine e_cons (σ₁ := σ) (e_bi (σ₁ := σ) (e_loc rfl) c1) (e_cons (σ₁ := σ) (e_bi (σ₁ := σ) ?_ c2) (e_cons (σ₁ := σ) (e_bi (σ₁ := σ) ?_ c3) e_nil))
    · exact e_comp (l := pre t) (m := toD) (g := fun p => .str p.op) (eL_list (e_loc rfl) (by rw [List.length_map]; (first | lia | omega))) (fun p hp => ⟨_, rfl, e_item (e_loc rfl) e_lit intOk0 (item0 p)⟩) (by (first | lia | omega))
    · refine e_comp (l := pre t) (m := toD) (g := fun p => .int (p.ks.length : Int)) (eL_list (e_loc rfl) (by rw [List.length_map]; (first | lia | omega))) (fun p hp => ⟨_, rfl, e_bin (e_bi (e_loc rfl) (len_tm (b.pre p hp))) e_lit ?_⟩) (by (first | lia | omega))
      have hk := ks_len (b.pre p hp)
      show (if (intOk ((p.ks.length + 1 : Nat) : Int) && intOk ((1 : Nat) : Int)) = true then mkI (((p.ks.length + 1 : Nat) : Int) - 1) else none) = _
      rw [intOk_nat (by (first | lia | omega)), intOk_nat (by (first | lia | omega)), if_pos (show (true && true) = true from rfl)]
      have : ((p.ks.length + 1 : Nat) : Int) - 1 = (p.ks.length : Int) := by (first | lia | omega)
      rw [this]
      exact mkI_nat (by (first | lia | omega))

/-! the sort of pairs -/
theorem ltL_some : ∀ {l r : List PyData}, (∀ x ∈ l, ∀ y ∈ r, (ltD x y).isSome = true) → (ltL l r).isSome = true
  | [], [], _ => rfl
  | [], _ :: _, _ => rfl
  | _ :: _, [], _ => rfl
  | x :: l, y :: r, h => by
    rw [ltL]
    split
    · exact ltL_some fun a ha b hb => h a (.tail _ ha) b (.tail _ hb)
    · exact h x (.head _) y (.head _)
theorem lt_toD (t : Tm) : ∀ u, (ltD (toD t) (toD u)).isSome = true := by
  induction t using tmInd with
  | _ o l ih =>
    intro u
    cases u with | node o' l' =>
    rw [toD, toD, toDs_eq, toDs_eq, ltD, ltL]
    split
    · refine ltL_some fun x hx y hy => ?_
      obtain ⟨a, ha, rfl⟩ := List.mem_map.mp hx
      obtain ⟨c, _, rfl⟩ := List.mem_map.mp hy
      exact ih a ha c
    · rfl
theorem lt_map {α : Type} {f g : α → PyData} {l r : List α} (h : ∀ x y, (ltD (f x) (f y)).isSome = true) : (ltL (l.map f) (r.map f)).isSome = true := by
  refine ltL_some fun x hx y hy => ?_
  obtain ⟨a, _, rfl⟩ := List.mem_map.mp hx
  obtain ⟨c, _, rfl⟩ := List.mem_map.mp hy
  exact h a c
theorem lt_key (t u : Tm) : (ltD (keyD t) (keyD u)).isSome = true := by
  unfold keyD
  rw [ltD, ltL]
  split
  · rw [ltL]
    split
    · rw [ltL]
      split
      · rfl
      · rw [ltD]; exact lt_map (g := fun _ => .none) fun _ _ => rfl
    · rw [ltD]; exact lt_map (g := fun _ => .none) fun _ _ => rfl
  · rfl
theorem lt_pair (t u : Tm) : (ltD (pairD t) (pairD u)).isSome = true := by
  unfold pairD
  rw [ltD, ltL]
  split
  · rw [ltL]
    split
    · rfl
    · exact lt_toD t u
  · exact lt_key t u
theorem sortOk_of {α : Type} {f : α → PyData} {l : List α} (h2 : 2 ≤ l.length) (h64 : l.length < 64) (hlay : ∀ x ∈ l, (f x).canLay0 = true) (hd : ∀ x ∈ l, (f x).depth ≤ 63) (hg : ∀ x ∈ l, gd (f x) = true) (hk : kindOk (l.map f) = true) (hc : ∀ x ∈ l, ∀ y ∈ l, (ltD (f x) (f y)).isSome = true) : sortOk (l.map f) = true := by
  unfold sortOk
  have hok : okD (.list (l.map f)) = true := by
    refine ok_of ?_ ?_
    · rw [PyData.canLay0]; exact layAll_map hlay
    · rw [PyData.depth]; have := depthAll_map hd; (first | lia | omega)
  rw [hok, gdL_map hg, hk]
  simp only [List.length_map, Bool.and_eq_true, decide_eq_true_eq, Bool.and_true, List.all_eq_true]
  refine ⟨⟨h2, h64⟩, fun x hx y hy => ?_⟩
  obtain ⟨a, ha, rfl⟩ := List.mem_map.mp hx
  obtain ⟨c, hc', rfl⟩ := List.mem_map.mp hy
  exact hc a ha c hc'
theorem lay_ints {α : Type} {f : α → Int} (l : List α) : PyData.canLayAll0 (l.map fun p => .int (f p)) = true := layAll_map fun _ _ => rfl
theorem key_depth (t : Tm) : (keyD t).depth ≤ 2 := by
  unfold keyD
  simp only [PyData.depth, PyData.depthAll]
  have h1 := depthAll_map (f := fun p : Tm => PyData.str p.op) (n := 0) (l := pre t) fun x _ => Nat.le_refl _
  have h2 := depthAll_map (f := fun p : Tm => PyData.int (p.ks.length : Int)) (n := 0) (l := pre t) fun x _ => Nat.le_refl _
  (first | lia | omega)
theorem key_lay {t : Tm} (g : goodA t) : (keyD t).canLay0 = true := by
  unfold keyD
  simp only [PyData.canLay0, PyData.canLayAll0, Bool.true_and, Bool.and_true]
  rw [layAll_map (f := fun p : Tm => PyData.str p.op) fun p hp => al_lay _ (g p hp), lay_ints]
  rfl
theorem sortOk_pairs {l : List Tm} (h2 : 2 ≤ l.length) (h64 : l.length < 64) (hb : ∀ x ∈ l, Bd x) : sortOk (l.map pairD) = true := by
  refine sortOk_of h2 h64 (fun x hx => ?_) (fun x hx => ?_) (fun x _ => gd_pairD x) ?_ fun x _ y _ => lt_pair x y
  · unfold pairD
    simp only [PyData.canLay0, PyData.canLayAll0]
    rw [key_lay (hb x hx).g, lay_toD x (hb x hx).g]; rfl
  · unfold pairD
    simp only [PyData.depth, PyData.depthAll]
    have := key_depth x
    have := depth_toD x
    have := (hb x hx).d
    (first | lia | omega)
  · unfold kindOk
    have : (l.map pairD).all (isFst 4) = true := by
      rw [List.all_eq_true]
      intro y hy
      obtain ⟨x, _, rfl⟩ := List.mem_map.mp hy
      rfl
    rw [this]; simp
theorem inOrd_run {l : List Tm} (h2 : 2 ≤ l.length) (h64 : l.length < 64) (hb : ∀ x ∈ l, Bd x) (n : Nat) (σ : Sg) (hn : ∀ x ∈ l, sz x + 2 ≤ n) : RR n 2 [.d (.list (l.map toD))] σ = some (.d (.tuple ((sortT l).map toD)), σ) := by
  obtain ⟨n, rfl⟩ : ∃ k, n = k + 1 := by
    cases l with
    | nil => simp at h2
    | cons x r => exact ⟨n - 1, by have := hn x (.head _); (first | lia | omega)⟩
  have hs : biD .sorted (.list (l.map pairD)) = some (.list ((sortT l).map pairD)) := by
    show (if sortOk (l.map pairD) = true then _ else _) = _
    rw [if_pos (sortOk_pairs h2 h64 hb), sortT_map]
  have hl := (sortT_perm l).length_eq
  have hT : biD .tuple (.list ((sortT l).map toD)) = some (.tuple ((sortT l).map toD)) := mkT_ok (by rw [List.length_map]; (first | lia | omega))
  refine run_of rfl rfl (s_ret (e_bi (σ₁ := σ) ?_ hT))
  refine e_comp (l := sortT l) (m := pairD) (g := toD) (eL_list (e_bi (σ₁ := σ) ?_ hs) (by rw [List.length_map]; (first | lia | omega))) (fun x hx => ⟨_, rfl, e_loc rfl⟩) (by (first | lia | omega))
  exact e_comp (l := l) (m := toD) (g := pairD) (eL_list (e_loc rfl) (by rw [List.length_map]; (first | lia | omega))) (fun x hx => ⟨_, rfl, e_tup (e_cons (e_call (e_cons (e_loc rfl) e_nil) (keyOf_run (hb x hx) n σ (by have := hn x hx; (first | lia | omega)))) (e_cons (e_loc rfl) e_nil)) rfl⟩) (by (first | lia | omega))
end Mine

end
noncomputable section
namespace Mine
open PySem
open Tm

section
variable {R : Ft} {ρ ρ' : List Bnd} {σ σ₁ σ₂ : Sg} {c : E} {v : V} {r : Option Out} {S S₁ S₂ : Mine.S}
theorem s_ifTR (h : ev gloF R c ρ σ = some ([.d (.bool true)], σ₁)) (k : evS gloF R S₁ ρ σ₁ = some (.ret v σ₂)) : evS gloF R (.ifS c S₁ S₂ S) ρ σ = some (.ret v σ₂) := s_ifT (v' := none) h (by rw [k]; rfl)
theorem s_ifFN (h : ev gloF R c ρ σ = some ([.d (.bool false)], σ₁)) (k : evS gloF R S ρ σ₁ = r) : evS gloF R (.ifS c S₁ .nop S) ρ σ = r := s_ifF h k
theorem s_ifTN (h : ev gloF R c ρ σ = some ([.d (.bool true)], σ₁)) (k1 : evS gloF R S₁ ρ σ₁ = some (.next ρ' σ₂)) (k : evS gloF R S ρ' σ₂ = r) : evS gloF R (.ifS c S₁ S₂ S) ρ σ = r := s_ifT (v' := none) h (by rw [k1]; exact k)
theorem s_ifFS (h : ev gloF R c ρ σ = some ([.d (.bool false)], σ₁)) (k1 : evS gloF R S₂ ρ σ₁ = some (.next ρ' σ₂)) (k : evS gloF R S ρ' σ₂ = r) : evS gloF R (.ifS c S₁ S₂ S) ρ σ = r := s_ifF h (by rw [k1]; exact k)
theorem e_of {e : E} {x y : PyData} (h : ev gloF R e ρ σ = some ([.d x], σ₁)) (q : x = y) : ev gloF R e ρ σ = some ([.d y], σ₁) := q ▸ h
end
theorem cmp_eq {a b : PyData} (ha : okD a = true) (hb : okD b = true) : cmpD .eq a b = some (PyData.eqv a b) := by
  show (if (okD a && okD b) = true then some _ else none) = _
  rw [ha, hb, if_pos (show (true && true) = true from rfl)]
theorem cmp_ne {a b : PyData} (ha : okD a = true) (hb : okD b = true) : cmpD .ne a b = some (!PyData.eqv a b) := by
  show (if (okD a && okD b) = true then some _ else none) = _
  rw [ha, hb, if_pos (show (true && true) = true from rfl)]
theorem ok_int {i : Int} : okD (.int i) = true := ok_of rfl (by simp [PyData.depth])
theorem eqv_int (a b : Int) : PyData.eqv (.int a) (.int b) = decide (a = b) := by
  have := eqv_eq (.int a) (.int b) rfl rfl
  by_cases e : a = b
  · subst e; simpa using this.mpr rfl
  · have h : ¬ PyData.int a = .int b := fun q => e (by cases q; rfl)
    rw [decide_eq_false e]
    cases q : PyData.eqv (.int a) (.int b) with
    | false => rfl
    | true => exact absurd (this.mp q) h
theorem eq_int (a b : Int) : cmpD .eq (.int a) (.int b) = some (decide (a = b)) := by rw [cmp_eq ok_int ok_int, eqv_int]
theorem sel_len (ops : List Str) (o : Str) {t : Tm} (b : Bd t) : (sel ops o t).length ≤ 60 :=
  Nat.le_trans (len_lvs _) (Nat.le_trans (sel_bounds ops o t).2.1 b.l)
section
variable {ops : List Str} (ho : OpsOk ops)
include ho
theorem kids_run {o : Str} (hoa : o ∈ al) (t : Tm) : Bd t → ∀ n σ, sz t + 1 ≤ n → RR n 4 [.me (opsD ops), .d (.str o), .d (toD t)] σ = some (.d (.tuple ((sel ops o t).map toD)), σ) := by
  induction t using tmInd with
  | _ o' l ih =>
    intro b n σ hn
    obtain ⟨n, rfl⟩ : ∃ k, n = k + 1 := ⟨n - 1, by (first | lia | omega)⟩
    have hsz := sz_pos (.node o' l)
    obtain ⟨n', rfl⟩ : ∃ k, n = k + 1 := ⟨n - 1, by (first | lia | omega)⟩
    have hlen := sel_len ops o b
    have hc : ev gloF (RR (n' + 1)) (.orE (.cmp .ne (.item (L 2) (I 0)) (L 1)) (.notE (Meth 3 (L 0) [L 2]))) [.v (.me (opsD ops)), .v (.d (.str o)), .v (.d (toD (.node o' l))), .un, .un] σ = some ([.d (.bool ((!decide (o' = o)) || (!bagT ops (.node o' l))))], σ) :=
      e_or (e_cmp (e_item (e_loc rfl) e_lit intOk0 (item0 _)) (e_loc rfl) (ne_str b.g.op hoa)) fun _ => e_not (e_meth (e_loc rfl) (e_cons (e_loc rfl) e_nil) (isBag_run ho b n' σ))
    refine run_of rfl rfl ?_
    by_cases h : notBag ops o (.node o' l)
    · rw [sel_not ops h]
      refine s_ifTR (e_of hc ?_) (s_ret (e_tup (e_cons (e_loc rfl) e_nil) rfl))
      by_cases h1 : o' = o
      · have : bagT ops (.node o' l) = false := by simpa using h h1
        rw [this]; simp
      · rw [decide_eq_false h1]; rfl
    · unfold notBag at h
      simp only [Classical.not_imp, Classical.not_not] at h
      obtain ⟨h1, h2⟩ := h
      have h1 : o' = o := h1
      subst h1
      rw [sel_bag ops (show bag ops o' l = true from h2)] at hlen ⊢
      refine s_ifFN (e_of hc (by rw [h2, decide_eq_true rfl]; rfl)) (s_ret ?_)
      have hT : biD .tuple (.list ((l.flatMap (sel ops o')).map toD)) = some (.tuple ((l.flatMap (sel ops o')).map toD)) := mkT_ok (by rw [List.length_map]; (first | lia | omega))
      refine e_bi (σ₁ := σ) ?_ hT
      refine e_comp2 (l := l) (m := toD) (s := sel ops o') (m2 := toD) (g := toD) (eL_tup (e_slc (e_loc rfl) (from1 b)) (by rw [List.length_map]; have := b.len; show l.length ≤ _; (first | lia | omega))) (fun z hz => ⟨_, rfl, ?_, fun w _ => ⟨_, rfl, e_loc rfl⟩⟩) (by (first | lia | omega))
      have hz' := sz_kid (o := o') hz
      exact eL_tup (e_meth (e_loc rfl) (e_cons (e_loc rfl) (e_cons (e_loc rfl) e_nil)) (ih z hz (b.kid hz) (n' + 1) σ (by (first | lia | omega)))) (by rw [List.length_map]; have := sel_len ops o' (b.kid hz); (first | lia | omega))
theorem made_run {o : Str} (hoa : o ∈ al) {ts : List Tm} (hb : ∀ x ∈ ts, Bd x) (h2 : 2 ≤ ts.length) (hl : lvs ts ≤ 60) (n : Nat) (σ : Sg) (hn : ∀ x ∈ ts, sz x + 4 ≤ n) :
    RR n 5 [.me (opsD ops), .d (.str o), .d (.list (ts.map toD))] σ = some (.d (toD (.node o (sortT (ts.flatMap (sel ops o))))), σ) := by
  have hx : ∃ x, x ∈ ts := by
    cases ts with
    | nil => simp at h2
    | cons x r => exact ⟨x, .head _⟩
  obtain ⟨x0, hx0⟩ := hx
  obtain ⟨n, rfl⟩ : ∃ k, n = k + 1 := ⟨n - 1, by have := hn x0 hx0; (first | lia | omega)⟩
  have hlen : (ts.flatMap (sel ops o)).length ≤ 60 := Nat.le_trans (len_lvs _) (Nat.le_trans (lvs_flat fun x _ => (sel_bounds ops o x).2.1) hl)
  have h2' : 2 ≤ (ts.flatMap (sel ops o)).length := Nat.le_trans h2 (flatMap_len (sel_ne ops o) ts)
  have hbf : ∀ x ∈ ts.flatMap (sel ops o), Bd x ∧ sz x + 4 ≤ n + 1 := fun x hx => by
    obtain ⟨k, hk, hx⟩ := List.mem_flatMap.mp hx
    have h1 := sel_sz ops o k x hx
    have h2 := hn k hk
    exact ⟨(hb k hk).sel ops x hx, by (first | lia | omega)⟩
  have hsl := (sortT_perm (ts.flatMap (sel ops o))).length_eq
  have htl : ts.length ≤ 60 := Nat.le_trans (len_lvs _) hl
  refine run_of rfl rfl (s_asg (σ₁ := σ) (v := .d (.tuple ((sortT (ts.flatMap (sel ops o))).map toD))) ?_ (s_ret ?_))
  · refine e_call (σ₁ := σ) (vs := [.d (.list ((ts.flatMap (sel ops o)).map toD))]) (e_cons (σ₁ := σ) ?_ e_nil) (inOrd_run h2' (by (first | lia | omega)) (fun x hx => (hbf x hx).1) n σ fun x hx => by have := (hbf x hx).2; (first | lia | omega))
    refine e_comp2 (l := ts) (m := toD) (s := sel ops o) (m2 := toD) (g := toD) (eL_list (e_loc rfl) (by rw [List.length_map]; (first | lia | omega))) (fun z hz => ⟨_, rfl, ?_, fun w _ => ⟨_, rfl, e_loc rfl⟩⟩) (by (first | lia | omega))
    exact eL_tup (e_meth (e_loc rfl) (e_cons (e_loc rfl) (e_cons (e_loc rfl) e_nil)) (kids_run ho hoa z (hb z hz) n σ (by have := hn z hz; (first | lia | omega)))) (by rw [List.length_map]; have := sel_len ops o (hb z hz); (first | lia | omega))
  · have hc : cmpD .eq (.int (((sortT (ts.flatMap (sel ops o))).map toD).length : Nat)) (.int 1) = some false := by
      rw [eq_int, decide_eq_false]
      rw [List.length_map]; (first | lia | omega)
    have hlen2 : biD .len (.tuple ((sortT (ts.flatMap (sel ops o))).map toD)) = some (.int (((sortT (ts.flatMap (sel ops o))).map toD).length : Nat)) := mkI_nat (by rw [List.length_map]; (first | lia | omega))
    have hadd : binD .add (.tuple [.str o]) (.tuple ((sortT (ts.flatMap (sel ops o))).map toD)) = some (toD (.node o (sortT (ts.flatMap (sel ops o))))) := by
      rw [toD, toDs_eq]
      exact mkT_ok (by rw [List.length_append, List.length_map]; simp only [List.length_cons, List.length_nil]; (first | lia | omega))
    exact e_ite (σ₁ := σ) (t := false) (e_cmp (σ₁ := σ) (e_bi (e_loc rfl) hlen2) e_lit hc) (fun h => by cases h) fun _ => e_bin (σ₁ := σ) (e_tup (e_cons (e_loc rfl) e_nil) rfl) (e_loc rfl) hadd
theorem normal_run (t : Tm) : Bd t → ∀ n σ, sz t + 6 ≤ n → RR n 6 [.me (opsD ops), .d (toD t)] σ = some (.d (toD (normal ops t)), σ) := by
  induction t using tmInd with
  | _ o l ih =>
    intro b n σ hn
    obtain ⟨n, rfl⟩ : ∃ k, n = k + 1 := ⟨n - 1, by (first | lia | omega)⟩
    obtain ⟨n', rfl⟩ : ∃ k, n = k + 1 := ⟨n - 1, by (first | lia | omega)⟩
    have hlen := b.len
    refine run_of rfl rfl (s_asg (σ₁ := σ) (v := .d (.list (l.map fun k => toD (normal ops k)))) ?_ (s_ret ?_))
    · refine e_comp (l := l) (m := toD) (g := fun k => toD (normal ops k)) (eL_tup (e_slc (e_loc rfl) (from1 b)) (by rw [List.length_map]; show l.length ≤ _; (first | lia | omega))) (fun k hk => ⟨_, rfl, e_meth (e_loc rfl) (e_cons (e_loc rfl) e_nil) (ih k hk (b.kid hk) (n' + 1) σ (by have := sz_kid (o := o) hk; (first | lia | omega)))⟩) (by (first | lia | omega))
    · have em : (l.map fun k => toD (normal ops k)) = (l.map (normal ops)).map toD := by rw [List.map_map]; rfl
      have hT : biD .tuple (.list (l.map fun k => toD (normal ops k))) = some (.tuple (l.map fun k => toD (normal ops k))) := mkT_ok (by rw [List.length_map]; (first | lia | omega))
      refine e_ite (σ₁ := σ) (t := bagT ops (.node o l)) (e_meth (σ₁ := σ) (σ₂ := σ) (e_loc rfl) (e_cons (e_loc rfl) e_nil) (isBag_run ho b n' σ)) (fun h => ?_) fun h => ?_
      · refine e_meth (σ₁ := σ) (σ₂ := σ) (vs := [.d (.str o), .d (.list (l.map fun k => toD (normal ops k)))]) (e_loc rfl) (e_cons (e_item (σ₁ := σ) (e_loc rfl) e_lit intOk0 (item0 _)) (e_cons (e_loc rfl) e_nil)) ?_
        rw [em, (normal_bag ops h).1]
        have hl2 := bag_two ops h
        refine made_run ho b.g.op (fun x hx => ?_) (by rw [List.length_map]; exact hl2) ?_ (n' + 1) σ fun x hx => ?_
        · obtain ⟨k, hk, rfl⟩ := List.mem_map.mp hx
          exact (b.kid hk).normal ops
        · exact Nat.le_trans (lvs_map fun k _ => (normal_bounds ops k).2.1) (Nat.le_trans lvs_le b.l)
        · obtain ⟨k, hk, rfl⟩ := List.mem_map.mp hx
          have := (normal_bounds ops k).1
          have := sz_kid (o := o) hk
          (first | lia | omega)
      · have h' : ¬ bagT ops (.node o l) = true := by rw [h]; simp
        have hadd : binD .add (.tuple [.str o]) (.tuple (l.map fun k => toD (normal ops k))) = some (toD (normal ops (.node o l))) := by
          rw [normal_not ops h', toD, toDs_eq, em]
          exact mkT_ok (by rw [List.length_append, List.length_map, List.length_map]; simp only [List.length_cons, List.length_nil]; (first | lia | omega))
        exact e_bin (σ₁ := σ) (e_tup (e_cons (e_item (σ₁ := σ) (e_loc rfl) e_lit intOk0 (item0 _)) e_nil) rfl) (e_bi (e_loc rfl) hT) hadd
theorem eq_tm {t u : Tm} (bt : Bd t) (bu : Bd u) : cmpD .eq (toD t) (toD u) = some (eqT t u) := by
  show (if (okD (toD t) && okD (toD u)) = true then some _ else none) = _
  rw [bt.ok, bu.ok, if_pos (show (true && true) = true from rfl)]; rfl
theorem areLike_run {t u : Tm} (bt : Bd t) (bu : Bd u) (n : Nat) (σ : Sg) (h1 : sz t + 7 ≤ n) (h2 : sz u + 7 ≤ n) : RR n 7 [.me (opsD ops), .d (toD t), .d (toD u)] σ = some (.d (.bool (eqT (normal ops t) (normal ops u))), σ) := by
  obtain ⟨n, rfl⟩ : ∃ k, n = k + 1 := ⟨n - 1, by (first | lia | omega)⟩
  refine run_of rfl rfl (s_ret ?_)
  exact e_cmp (σ₁ := σ) (σ₂ := σ) (e_meth (σ₁ := σ) (σ₂ := σ) (e_loc rfl) (e_cons (e_loc rfl) e_nil) (normal_run ho t bt n σ (by (first | lia | omega)))) (e_meth (σ₁ := σ) (σ₂ := σ) (e_loc rfl) (e_cons (e_loc rfl) e_nil) (normal_run ho u bu n σ (by (first | lia | omega)))) (eq_tm ho (bt.normal ops) (bu.normal ops))
end
end Mine

end
noncomputable section
namespace Mine
open PySem
open Tm

/-! the law's own functions -/
section
variable {ops : List Str} (ho : OpsOk ops)
theorem bag_int (o : Str) (l : List Tm) : ((!ops.contains o) || decide (((l.length + 1 : Nat) : Int) < 3)) = !bagT ops (.node o l) := by
  have : bagT ops (.node o l) = (ops.contains o && decide (2 ≤ l.length)) := rfl
  rw [this]
  have e : decide (((l.length + 1 : Nat) : Int) < 3) = !decide (2 ≤ l.length) := by
    by_cases h : 2 ≤ l.length
    · rw [decide_eq_true h, decide_eq_false (by (first | lia | omega))]; rfl
    · rw [decide_eq_false h, decide_eq_true (by (first | lia | omega))]; rfl
  rw [e, Bool.not_and]
include ho
theorem flatBy_of {o : Str} (hoa : o ∈ al) {t : Tm} (b : Bd t) {n : Nat} {σ : Sg} (h : RR n 13 [.d (opsD ops), .d (toD t)] σ = some (.d (.list ((flat ops t).map toD)), σ)) : RR (n + 1) 14 [.d (opsD ops), .d (.str o), .d (toD t)] σ = some (.d (.list ((sel ops o t).map toD)), σ) := by
  refine run_of rfl rfl (s_ret ?_)
  refine e_ite (σ₁ := σ) (t := decide (t.op = o)) (e_cmp (σ₁ := σ) (e_item (σ₁ := σ) (e_loc rfl) e_lit intOk0 (item0 _)) (e_loc rfl) (eq_str b.g.op hoa)) (fun q => ?_) fun q => ?_
  · have q := of_decide_eq_true q
    unfold sel; rw [if_pos q]
    exact e_call (e_cons (e_loc rfl) (e_cons (e_loc rfl) e_nil)) h
  · have q := of_decide_eq_false q
    unfold sel; rw [if_neg q]
    exact e_lst (e_cons (e_loc rfl) e_nil) rfl
theorem flat_run (t : Tm) : Bd t → ∀ n σ, 2 * sz t ≤ n → RR n 13 [.d (opsD ops), .d (toD t)] σ = some (.d (.list ((flat ops t).map toD)), σ) := by
  induction t using tmInd with
  | _ o l ih =>
    intro b n σ hn
    have hsz := sz_pos (.node o l)
    obtain ⟨n, rfl⟩ : ∃ k, n = k + 1 := ⟨n - 1, by (first | lia | omega)⟩
    have hlen := b.len
    have hc : ev gloF (RR n) (.orE (.cmp .notIn (.item (L 1) (I 0)) (L 0)) (.cmp .lt (.bi .len (L 1)) (I 3))) [.v (.d (opsD ops)), .v (.d (toD (.node o l))), .un, .un] σ = some ([.d (.bool ((!ops.contains o) || decide (((l.length + 1 : Nat) : Int) < 3)))], σ) :=
      e_or (e_cmp (σ₁ := σ) (e_item (σ₁ := σ) (e_loc rfl) e_lit intOk0 (item0 _)) (e_loc rfl) (notin_ops ho b.g.op)) fun _ => e_cmp (σ₁ := σ) (e_bi (e_loc rfl) (len_toD hlen)) e_lit rfl
    rw [bag_int] at hc
    refine run_of rfl rfl ?_
    by_cases h : bagT ops (.node o l) = true
    · refine s_ifFN (e_of hc (by rw [h]; rfl)) (s_ret ?_)
      have hfl := sel_len ops o b
      have e : sel ops o (.node o l) = flat ops (.node o l) := by unfold sel; exact if_pos rfl
      rw [e, flat_bag ops h] at hfl
      rw [flat_bag ops h]
      refine e_comp2 (l := l) (m := toD) (s := sel ops o) (m2 := toD) (g := toD) (eL_tup (e_slc (e_loc rfl) (from1 b)) (by rw [List.length_map]; show l.length ≤ _; (first | lia | omega))) (fun z hz => ⟨_, rfl, ?_, fun w _ => ⟨_, rfl, e_loc rfl⟩⟩) (Nat.le_trans hfl (by decide))
      have hz' := sz_kid (o := o) hz
      obtain ⟨n', rfl⟩ : ∃ k, n = k + 1 := ⟨n - 1, by have := sz_pos z; (first | lia | omega)⟩
      exact eL_list (e_call (e_cons (e_loc rfl) (e_cons (e_item (σ₁ := σ) (e_loc rfl) e_lit intOk0 (item0 _)) (e_cons (e_loc rfl) e_nil))) (flatBy_of ho b.g.op (b.kid hz) (ih z hz (b.kid hz) n' σ (by (first | lia | omega))))) (by rw [List.length_map]; have := sel_len ops o (b.kid hz); (first | lia | omega))
    · have h' : bagT ops (.node o l) = false := by simpa using h
      rw [flat_not ops h]
      exact s_ifTR (e_of hc (by rw [h']; rfl)) (s_ret (e_lst (e_cons (e_loc rfl) e_nil) rfl))
omit ho in
theorem str_len (a b : Str) : (a ++ b).length = a.length + b.length := Str.length_append ..
omit ho in
theorem cat_perm {l r : List Str} (p : l.Perm r) : (catS l).length = (catS r).length := by
  induction p with
  | nil => rfl
  | cons x _ ih => rw [catS, catS, str_len, str_len, ih]
  | swap x y l => rw [catS, catS, catS, catS, str_len, str_len, str_len, str_len]; (first | lia | omega)
  | trans _ _ h1 h2 => exact h1.trans h2
omit ho in
theorem cat_len {f : Tm → Str} {k : Nat} : ∀ {l : List Tm}, (∀ x ∈ l, (f x).length ≤ k * sz x) → (catS (l.map f)).length ≤ k * szs l
  | [], _ => Nat.zero_le _
  | x :: l, h => by
    rw [List.map_cons, catS, str_len, szs, Nat.mul_add]
    have := h x (.head _)
    have := cat_len fun y hy => h y (.tail _ hy)
    (first | lia | omega)
omit ho in
theorem counted_len (t : Tm) : goodA t → (counted ops t).length ≤ 4 * sz t := by
  induction t using strong with
  | h t ih =>
    intro g
    have ho' := al_len _ g.op
    by_cases hb : bagT ops t = true
    · rw [counted_bag ops hb, str_len, str_len, str_len, cat_perm (sortB_perm .str _)]
      have := cat_len (f := counted ops) (k := 4) (l := flat ops t) fun x hx => ih x (flat_sz ops hb hx) fun p hp => g p (flat_pre ops hb hx p hp)
      have := (flat_bounds ops hb).1
      have h1 : chl.length = 1 := rfl
      have h2 : chr.length = 1 := rfl
      (first | lia | omega)
    · rw [counted_not ops hb, str_len, str_len, str_len]
      have := cat_len (f := counted ops) (k := 4) (l := t.ks) fun x hx => ih x (ks_sz hx) (goodA_ks g hx)
      have h1 : chL.length = 1 := rfl
      have h2 : chR.length = 1 := rfl
      cases t with | node o l =>
      have : szs (Tm.node o l).ks = szs l := rfl
      rw [sz]
      (first | lia | omega)
omit ho in
theorem lay_append {a b : Str} (ha : PyData.strOk a = true) (hb : PyData.strOk b = true) : PyData.strOk (a ++ b) = true := by
  unfold PyData.strOk at *
  rw [Str.cps_append, Array.all_append, ha, hb]; rfl
omit ho in
theorem lay_cat : ∀ {l : List Str}, (∀ x ∈ l, PyData.strOk x = true) → PyData.strOk (catS l) = true
  | [], _ => by decide +kernel
  | x :: l, h => lay_append (h x (.head _)) (lay_cat fun y hy => h y (.tail _ hy))
omit ho in
theorem lay_counted (t : Tm) : goodA t → PyData.strOk (counted ops t) = true := by
  induction t using strong with
  | h t ih =>
    intro g
    by_cases hb : bagT ops t = true
    · rw [counted_bag ops hb]
      refine lay_append (lay_append (lay_append (by decide +kernel) (al_lay _ g.op)) (lay_cat fun x hx => ?_)) (by decide +kernel)
      obtain ⟨y, hy, rfl⟩ := List.mem_map.mp ((sortB_perm .str _).mem_iff.mp hx)
      exact ih y (flat_sz ops hb hy) fun p hp => g p (flat_pre ops hb hy p hp)
    · rw [counted_not ops hb]
      refine lay_append (lay_append (lay_append (by decide +kernel) (al_lay _ g.op)) (lay_cat fun x hx => ?_)) (by decide +kernel)
      obtain ⟨y, hy, rfl⟩ := List.mem_map.mp hx
      exact ih y (ks_sz hy) (goodA_ks g hy)
omit ho in
theorem strsOf_map : ∀ l : List Str, strsOf (l.map .str) = some l
  | [] => rfl
  | x :: l => by rw [List.map_cons, strsOf, strsOf_map l]; rfl
omit ho in
theorem join_ok {l : List Str} (h : (catS l).length ≤ 100000) (h2 : l.length ≤ 100000) : biD .join (.list (l.map .str)) = some (.str (catS l)) := by
  show ((strsOf (l.map .str)).bind fun ss => if (catS ss).length ≤ lim ∧ (l.map PyData.str).length ≤ lim then some (PyData.str (catS ss)) else none) = _
  rw [strsOf_map, Option.bind_some, if_pos ⟨by unfold lim; (first | lia | omega), by rw [List.length_map]; unfold lim; (first | lia | omega)⟩]
omit ho in
theorem add_str {a b : Str} (h : (a ++ b).length ≤ 100000) : binD .add (.str a) (.str b) = some (.str (a ++ b)) := by
  show mkS (a ++ b) = _
  unfold mkS; rw [if_pos (by unfold lim; (first | lia | omega))]
omit ho in
theorem sortOk_strs {l : List Str} (h2 : 2 ≤ l.length) (h64 : l.length < 64) (hl : ∀ x ∈ l, PyData.strOk x = true) : sortOk (l.map PyData.str) = true := by
  refine sortOk_of (f := PyData.str) h2 h64 hl (fun x _ => by simp [PyData.depth]) (fun _ _ => rfl) ?_ fun _ _ _ _ => rfl
  unfold kindOk
  have : (l.map PyData.str).all (isTag 3) = true := by
    rw [List.all_eq_true]
    intro y hy
    obtain ⟨x, _, rfl⟩ := List.mem_map.mp hy
    rfl
  rw [this]; rfl
theorem counted_run (t : Tm) : Bd t → ∀ n σ, 2 * sz t + 1 ≤ n → RR n 15 [.d (opsD ops), .d (toD t)] σ = some (.d (.str (counted ops t)), σ) := by
  induction t using strong with
  | h t ih =>
    intro b n σ hn
    obtain ⟨n, rfl⟩ : ∃ k, n = k + 1 := ⟨n - 1, by (first | lia | omega)⟩
    have hf := flat_run ho t b n σ (by (first | lia | omega))
    have hcl := counted_len (ops := ops) t b.g
    have hs := b.s
    have hfl : (flat ops t).length ≤ 60 := by
      have := sel_len ops t.op b
      unfold sel at this
      rwa [if_pos rfl] at this
    refine run_of rfl rfl (s_asg (σ₁ := σ) (e_call (e_cons (e_loc rfl) (e_cons (e_loc rfl) e_nil)) hf) ?_)
    have hbf : ∀ x ∈ flat ops t, Bd x := fun x hx => by
      have e : flat ops t = sel ops t.op t := by unfold sel; rw [if_pos rfl]
      rw [e] at hx; exact b.sel ops x hx
    have okl : okD (.list ((flat ops t).map toD)) = true := by
      refine ok_of ?_ ?_
      · rw [PyData.canLay0]; exact layAll_map fun x hx => lay_toD x (hbf x hx).g
      · rw [PyData.depth]
        have := depthAll_map (f := toD) (n := 50) (l := flat ops t) fun x hx => Nat.le_trans (depth_toD x) (hbf x hx).d
        (first | lia | omega)
    have ok1 : okD (.list [toD t]) = true := by
      refine ok_of ?_ ?_
      · rw [PyData.canLay0, PyData.canLayAll0, lay_toD t b.g]; rfl
      · rw [PyData.depth, PyData.depthAll, PyData.depthAll]
        have := depth_toD t
        have := b.d
        (first | lia | omega)
    have gl : gd (.list ((flat ops t).map toD)) = true := by simp only [gd]; exact gdL_map fun x _ => gd_toD x
    have g1 : gd (.list [toD t]) = true := by simp only [gd, gdL, gd_toD, Bool.and_true]
    by_cases hb : bagT ops t = true
    · have hne : PyData.eqv (.list ((flat ops t).map toD)) (.list [toD t]) = false := by
        cases q : PyData.eqv (.list ((flat ops t).map toD)) (.list [toD t]) with
        | false => rfl
        | true =>
          have := (eqv_eq _ _ gl g1).mp q
          have h2 := flat_two ops hb
          simp only [PyData.list.injEq] at this
          have := congrArg List.length this
          rw [List.length_map] at this
          simp only [List.length_cons, List.length_nil] at this
          (first | lia | omega)
      refine s_ifFN (e_of (e_cmp (σ₁ := σ) (e_loc rfl) (e_lst (e_cons (e_loc rfl) e_nil) rfl) (cmp_eq okl ok1)) (by rw [hne])) (s_ret ?_)
      have hg : ∀ x ∈ (flat ops t).map (counted ops), PyData.strOk x = true := fun x hx => by
        obtain ⟨y, hy, rfl⟩ := List.mem_map.mp hx
        exact lay_counted y (hbf y hy).g
      have hso : biD .sorted (.list (((flat ops t).map (counted ops)).map .str)) = some (.list ((sortS ((flat ops t).map (counted ops))).map .str)) := by
        show (if sortOk (((flat ops t).map (counted ops)).map PyData.str) = true then _ else _) = _
        rw [if_pos (sortOk_strs (by rw [List.length_map]; exact flat_two ops hb) (by rw [List.length_map]; (first | lia | omega)) hg), sortB_map]
      rw [counted_bag ops hb] at hcl ⊢
      simp only [str_len] at hcl
      have hso2 : (sortS ((flat ops t).map (counted ops))).length = (flat ops t).length := by
        have := (sortB_perm PyData.str ((flat ops t).map (counted ops))).length_eq
        rw [List.length_map] at this; exact this
      refine e_bin (σ₁ := σ) (σ₂ := σ) (e_bin (σ₁ := σ) (σ₂ := σ) (e_bin (σ₁ := σ) (σ₂ := σ) e_lit (e_item (σ₁ := σ) (e_loc rfl) e_lit intOk0 (item0 _)) (add_str (a := chl) (by rw [str_len]; (first | lia | omega)))) (e_bi (σ₁ := σ) (e_bi (σ₁ := σ) ?_ hso) (join_ok (by (first | lia | omega)) (by (first | lia | omega)))) (add_str (by rw [str_len, str_len]; (first | lia | omega)))) e_lit (add_str (b := chr) (by rw [str_len, str_len, str_len]; (first | lia | omega)))
      rw [List.map_map]
      exact e_comp (l := flat ops t) (m := toD) (g := fun x => .str (counted ops x)) (eL_list (e_loc rfl) (by rw [List.length_map]; (first | lia | omega))) (fun x hx => ⟨_, rfl, e_call (e_cons (e_loc rfl) (e_cons (e_loc rfl) e_nil)) (ih x (flat_sz ops hb hx) (hbf x hx) n σ (by have := flat_sz ops hb hx; (first | lia | omega)))⟩) (by (first | lia | omega))
    · have hq : PyData.eqv (.list ((flat ops t).map toD)) (.list [toD t]) = true := by
        rw [flat_not ops hb]
        exact (eqv_eq _ _ (by rw [flat_not ops hb] at gl; exact gl) g1).mpr rfl
      refine s_ifTR (e_of (e_cmp (σ₁ := σ) (e_loc rfl) (e_lst (e_cons (e_loc rfl) e_nil) rfl) (cmp_eq okl ok1)) (by rw [hq])) (s_ret ?_)
      have hkl := ks_len b
      rw [counted_not ops hb] at hcl ⊢
      simp only [str_len] at hcl
      refine e_bin (σ₁ := σ) (σ₂ := σ) (e_bin (σ₁ := σ) (σ₂ := σ) (e_bin (σ₁ := σ) (σ₂ := σ) e_lit (e_item (σ₁ := σ) (e_loc rfl) e_lit intOk0 (item0 _)) (add_str (a := chL) (by rw [str_len]; (first | lia | omega)))) (e_bi (σ₁ := σ) ?_ (join_ok (l := t.ks.map (counted ops)) (by (first | lia | omega)) (by rw [List.length_map]; (first | lia | omega)))) (add_str (by rw [str_len, str_len]; (first | lia | omega)))) e_lit (add_str (b := chR) (by rw [str_len, str_len, str_len]; (first | lia | omega)))
      rw [List.map_map]
      exact e_comp (l := t.ks) (m := toD) (g := fun x => .str (counted ops x)) (eL_tup (e_slc (e_loc rfl) (from1 b)) (by rw [List.length_map]; (first | lia | omega))) (fun x hx => ⟨_, rfl, e_call (e_cons (e_loc rfl) (e_cons (e_loc rfl) e_nil)) (ih x (ks_sz hx) (by cases t with | node o l => exact b.kid hx) n σ (by have := ks_sz hx; (first | lia | omega)))⟩) (by (first | lia | omega))
end
end Mine

end
noncomputable section
namespace Mine
open PySem
open Tm

theorem all_loop {n : Nat} {T : PyData} {σ : Sg} : ∀ (l : List Tm) (acc : List PyData) (b2 : Bnd), (∀ t ∈ l, RR n 16 [.d (toD t)] σ = some (.d (.list ((pre t).map toD)), σ)) → acc.length + szs l ≤ 1000 →
    ∃ b2', forGo (fun x ρ σ => (bindT (.one 2) x ρ).bind fun ρ' => evS gloF (RR n) (.asg 1 (.bin .add (L 1) (Call 16 [L 2])) .nop) ρ' σ) (l.map toD) [.v (.d T), .v (.d (.list acc)), b2] σ = some (.next [.v (.d T), .v (.d (.list (acc ++ (pres l).map toD))), b2'] σ)
  | [], acc, b2, _, _ => ⟨b2, by simp [forGo, pres]⟩
  | t :: l, acc, b2, h, hz => by
    rw [szs] at hz
    have hl := pre_len t
    obtain ⟨c2, ih⟩ := all_loop (T := T) l (acc ++ (pre t).map toD) (.v (.d (toD t))) (fun x hx => h x (.tail _ hx)) (by rw [List.length_append, List.length_map, hl]; (first | lia | omega))
    refine ⟨c2, ?_⟩
    rw [List.map_cons, forGo]
    have step : evS gloF (RR n) (.asg 1 (.bin .add (L 1) (Call 16 [L 2])) .nop) [.v (.d T), .v (.d (.list acc)), .v (.d (toD t))] σ = some (.next [.v (.d T), .v (.d (.list (acc ++ (pre t).map toD))), .v (.d (toD t))] σ) :=
      s_asg (σ₁ := σ) (e_bin (σ₁ := σ) (σ₂ := σ) (e_loc rfl) (e_call (e_cons (e_loc rfl) e_nil) (h t (.head _))) (show mkL _ = _ from mkL_ok (by rw [List.length_append, List.length_map, hl]; (first | lia | omega)))) rfl
    rw [show bindT (.one 2) (toD t) [.v (.d T), .v (.d (.list acc)), b2] = some [.v (.d T), .v (.d (.list acc)), .v (.d (toD t))] from rfl, Option.bind_some, step, Option.bind_some]
    show forGo _ _ _ _ = _
    rw [ih, pres, List.map_append, List.append_assoc]
theorem all_run (t : Tm) : Bd t → ∀ n σ, sz t ≤ n → RR n 16 [.d (toD t)] σ = some (.d (.list ((pre t).map toD)), σ) := by
  induction t using tmInd with
  | _ o l ih =>
    intro b n σ hn
    have hb := b.s
    rw [sz] at hn hb
    obtain ⟨n, rfl⟩ : ∃ k, n = k + 1 := ⟨n - 1, by (first | lia | omega)⟩
    have hlen := b.len
    obtain ⟨b2, hgo⟩ := all_loop (n := n) (T := toD (.node o l)) (σ := σ) l [toD (.node o l)] .un (fun k hk => ih k hk (b.kid hk) n σ (by have := szs_mem hk; (first | lia | omega))) (by simp only [List.length_cons, List.length_nil]; (first | lia | omega))
    refine run_of rfl rfl (s_asg (σ₁ := σ) (e_lst (e_cons (e_loc rfl) e_nil) rfl) (s_for (σ₁ := σ) (eL_tup (e_slc (e_loc rfl) (from1 b)) (by rw [List.length_map]; show l.length ≤ _; (first | lia | omega))) hgo (s_ret (e_loc ?_))))
    rw [pre, List.map_cons]; rfl
theorem key_run {t : Tm} (b : Bd t) (n : Nat) (σ : Sg) (hn : sz t + 1 ≤ n) : RR n 17 [.d (toD t)] σ = some (.d (lawKey t), σ) := by
  obtain ⟨n, rfl⟩ : ∃ k, n = k + 1 := ⟨n - 1, by (first | lia | omega)⟩
  have hs := b.s
  have hpl := pre_len t
  refine run_of rfl rfl (s_asg (σ₁ := σ) (e_call (e_cons (e_loc rfl) e_nil) (all_run t b n σ (by (first | lia | omega)))) (s_ret ?_))
  have c1 : biD .len (.list ((pre t).map toD)) = some (.int ((pre t).length : Int)) := by
    show mkI ((((pre t).map toD).length : Nat) : Int) = _
    rw [List.length_map]
    exact mkI_nat (by (first | lia | omega))
  refine e_tup (xs := [.int ((pre t).length : Int), .list ((pre t).map fun p => .str p.op), .list ((pre t).map fun p => .int ((p.ks.length + 1 : Nat) : Int))]) (vs := [.d (.int ((pre t).length : Int)), .d (.list ((pre t).map fun p => .str p.op)), .d (.list ((pre t).map fun p => .int ((p.ks.length + 1 : Nat) : Int)))]) ?_ rfl
  refine e_cons (σ₁ := σ) (e_bi (σ₁ := σ) (e_loc rfl) c1) (e_cons (σ₁ := σ) ?_ (e_cons (σ₁ := σ) ?_ e_nil))
  · exact e_comp (l := pre t) (m := toD) (g := fun p => .str p.op) (eL_list (e_loc rfl) (by rw [List.length_map]; (first | lia | omega))) (fun p hp => ⟨_, rfl, e_item (σ₁ := σ) (e_loc rfl) e_lit intOk0 (item0 p)⟩) (by (first | lia | omega))
  · exact e_comp (l := pre t) (m := toD) (g := fun p => .int ((p.ks.length + 1 : Nat) : Int)) (eL_list (e_loc rfl) (by rw [List.length_map]; (first | lia | omega))) (fun p hp => ⟨_, rfl, e_bi (e_loc rfl) (len_tm (b.pre p hp))⟩) (by (first | lia | omega))
theorem lt_lawKey (t u : Tm) : (ltD (lawKey t) (lawKey u)).isSome = true := by
  unfold lawKey
  rw [ltD, ltL]
  split
  · rw [ltL]
    split
    · rw [ltL]
      split
      · rfl
      · rw [ltD]; exact lt_map (g := fun _ => .none) fun _ _ => rfl
    · rw [ltD]; exact lt_map (g := fun _ => .none) fun _ _ => rfl
  · rfl
theorem lawKey_depth (t : Tm) : (lawKey t).depth ≤ 2 := by
  unfold lawKey
  simp only [PyData.depth, PyData.depthAll]
  have h1 := depthAll_map (f := fun p : Tm => PyData.str p.op) (n := 0) (l := pre t) fun x _ => Nat.le_refl _
  have h2 := depthAll_map (f := fun p : Tm => PyData.int ((p.ks.length + 1 : Nat) : Int)) (n := 0) (l := pre t) fun x _ => Nat.le_refl _
  (first | lia | omega)
theorem lawKey_lay {t : Tm} (g : goodA t) : (lawKey t).canLay0 = true := by
  unfold lawKey
  simp only [PyData.canLay0, PyData.canLayAll0, Bool.true_and, Bool.and_true]
  rw [layAll_map (f := fun p : Tm => PyData.str p.op) fun p hp => al_lay _ (g p hp), lay_ints]
  rfl
theorem ok_keys {l : List Tm} (hb : ∀ x ∈ l, Bd x) : okD (.list (l.map lawKey)) = true := by
  refine ok_of ?_ ?_
  · rw [PyData.canLay0]; exact layAll_map fun x hx => lawKey_lay (hb x hx).g
  · rw [PyData.depth]
    have := depthAll_map (f := lawKey) (n := 2) (l := l) fun x hx => lawKey_depth x
    (first | lia | omega)
theorem ok_nil : okD (.list []) = true := by decide +kernel
theorem isNormal_loop {ops : List Str} (ho : OpsOk ops) {n : Nat} {T : PyData} {σ : Sg} : ∀ (l : List Tm) (b2 b3 : Bnd), (∀ p ∈ l, Bd p ∧ okPart ops p ∧ sz p + 1 ≤ n) →
    ∃ b2' b3', forGo (fun x ρ σ => (bindT (.one 2) x ρ).bind fun ρ' => evS gloF (RR n) (.ifS (.andE (.cmp .isIn (.item (L 2) (I 0)) (L 0)) (.cmp .gt (.bi .len (L 2)) (I 2))) (.asg 3 (.comp (Call 17 [L 4]) (.one 4) (.slc .from1 (L 2)) yes) <| .ifS (.orE (.cmp .ne (L 3) (.bi .sorted (L 3))) (.cmp .ne (.comp (L 4) (.one 4) (.slc .from1 (L 2)) (.andE (.cmp .eq (.item (L 4) (I 0)) (.item (L 2) (I 0))) (.cmp .gt (.bi .len (L 4)) (I 2)))) (Lst []))) (.ret (.lit (.bool false))) .nop .nop) .nop .nop) ρ' σ) (l.map toD) [.v (.d (opsD ops)), .v (.d T), b2, b3, .un] σ = some (.next [.v (.d (opsD ops)), .v (.d T), b2', b3', .un] σ)
  | [], b2, b3, _ => ⟨b2, b3, rfl⟩
  | p :: l, b2, b3, h => by
    obtain ⟨b, hok, hn⟩ := h p (.head _)
    have hbag : bagT ops p = (ops.contains p.op && decide ((2 : Int) < ((p.ks.length + 1 : Nat) : Int))) := by
      unfold bagT bag
      congr 1
      rw [decide_eq_decide]; (first | lia | omega)
    have step : ∃ b3', evS gloF (RR n) (.ifS (.andE (.cmp .isIn (.item (L 2) (I 0)) (L 0)) (.cmp .gt (.bi .len (L 2)) (I 2))) (.asg 3 (.comp (Call 17 [L 4]) (.one 4) (.slc .from1 (L 2)) yes) <| .ifS (.orE (.cmp .ne (L 3) (.bi .sorted (L 3))) (.cmp .ne (.comp (L 4) (.one 4) (.slc .from1 (L 2)) (.andE (.cmp .eq (.item (L 4) (I 0)) (.item (L 2) (I 0))) (.cmp .gt (.bi .len (L 4)) (I 2)))) (Lst []))) (.ret (.lit (.bool false))) .nop .nop) .nop .nop) [.v (.d (opsD ops)), .v (.d T), .v (.d (toD p)), b3, .un] σ = some (.next [.v (.d (opsD ops)), .v (.d T), .v (.d (toD p)), b3', .un] σ) := by
      have hc : ev gloF (RR n) (.andE (.cmp .isIn (.item (L 2) (I 0)) (L 0)) (.cmp .gt (.bi .len (L 2)) (I 2))) [.v (.d (opsD ops)), .v (.d T), .v (.d (toD p)), b3, .un] σ = some ([.d (.bool (ops.contains p.op && decide ((2 : Int) < ((p.ks.length + 1 : Nat) : Int))))], σ) :=
        e_and (e_cmp (σ₁ := σ) (e_item (σ₁ := σ) (e_loc rfl) e_lit intOk0 (item0 p)) (e_loc rfl) (in_ops ho b.g.op)) fun _ => e_cmp (σ₁ := σ) (e_bi (e_loc rfl) (len_tm b)) e_lit rfl
      rw [← hbag] at hc
      by_cases hb : bagT ops p = true
      · obtain ⟨h1, h2⟩ := hok hb
        have hkl := ks_len b
        have hbk : ∀ k ∈ p.ks, Bd k := fun k hk => by cases p with | node o r => exact b.kid hk
        have hlv : p.ks.length ≤ 60 := by
          cases p with | node o r =>
          exact Nat.le_trans (len_lvs r) (Nat.le_trans lvs_le b.l)
        have hso : biD .sorted (.list (p.ks.map lawKey)) = some (.list (p.ks.map lawKey)) := by
          show (if sortOk (p.ks.map lawKey) = true then _ else _) = _
          rw [if_pos, h1]
          refine sortOk_of (bag_two ops hb) (by (first | lia | omega)) (fun x hx => lawKey_lay (hbk x hx).g) (fun x _ => Nat.le_trans (lawKey_depth x) (by decide)) (fun x _ => gd_lawKey x) ?_ fun x _ y _ => lt_lawKey x y
          unfold kindOk
          have : (p.ks.map lawKey).all (isFst 2) = true := by
            rw [List.all_eq_true]
            intro y hy
            obtain ⟨x, _, rfl⟩ := List.mem_map.mp hy
            rfl
          rw [this]; simp
        have hfil : (p.ks.filter fun k => decide (k.op = p.op) && decide ((2 : Int) < ((k.ks.length + 1 : Nat) : Int))) = [] := by
          rw [List.filter_eq_nil_iff]
          intro k hk
          simp only [Bool.and_eq_true, decide_eq_true_eq, not_and]
          intro e hlt
          have hp' := (bagT_iff ops).mp hb
          exact h2 k hk e ((bagT_iff ops).mpr ⟨by rw [e]; exact hp'.1, by (first | lia | omega)⟩)
        refine ⟨.v (.d (.list (p.ks.map lawKey))), s_ifTN (σ₂ := σ) (ρ' := [.v (.d (opsD ops)), .v (.d T), .v (.d (toD p)), .v (.d (.list (p.ks.map lawKey))), .un]) (e_of hc (by rw [hb])) (s_asg (σ₁ := σ) (v := .d (.list (p.ks.map lawKey))) ?_ (s_ifFN (e_of (e_or (t := false) (u := false) ?_ fun _ => ?_) rfl) rfl)) rfl⟩
        · exact e_comp (l := p.ks) (m := toD) (g := lawKey) (eL_tup (e_slc (e_loc rfl) (from1 b)) (by rw [List.length_map]; (first | lia | omega))) (fun k hk => ⟨_, rfl, e_call (e_cons (e_loc rfl) e_nil) (key_run (hbk k hk) n σ (by have := ks_sz hk; (first | lia | omega)))⟩) (by (first | lia | omega))
        · have gk : gd (.list (p.ks.map lawKey)) = true := by simp only [gd]; exact gdL_map fun x _ => gd_lawKey x
          have e : cmpD .ne (.list (p.ks.map lawKey)) (.list (p.ks.map lawKey)) = some false := by
            rw [cmp_ne (ok_keys hbk) (ok_keys hbk), (eqv_eq _ _ gk gk).mpr rfl]; rfl
          exact e_cmp (σ₁ := σ) (e_loc rfl) (e_bi (e_loc rfl) hso) e
        · have e : cmpD .ne (.list []) (.list []) = some false := by
            rw [cmp_ne ok_nil ok_nil]; rfl
          refine e_cmp (σ₁ := σ) (x := .list []) ?_ (e_lst e_nil rfl) e
          have := e_compIf (R := RR n) (ρ := [.v (.d (opsD ops)), .v (.d T), .v (.d (toD p)), .v (.d (.list (p.ks.map lawKey))), .un]) (σ := σ) (σ₁ := σ) (it := .slc .from1 (L 2)) (e := L 4) (c := .andE (.cmp .eq (.item (L 4) (I 0)) (.item (L 2) (I 0))) (.cmp .gt (.bi .len (L 4)) (I 2))) (t := .one 4) (l := p.ks) (m := toD) (g := toD) (p := fun k => decide (k.op = p.op) && decide ((2 : Int) < ((k.ks.length + 1 : Nat) : Int))) (eL_tup (e_slc (e_loc rfl) (from1 b)) (by rw [List.length_map]; (first | lia | omega))) (fun k hk => ⟨_, rfl, e_and (e_cmp (σ₁ := σ) (σ₂ := σ) (e_item (σ₁ := σ) (e_loc rfl) e_lit intOk0 (item0 k)) (e_item (σ₁ := σ) (e_loc rfl) e_lit intOk0 (item0 p)) (eq_str (hbk k hk).g.op b.g.op)) fun _ => e_cmp (σ₁ := σ) (e_bi (e_loc rfl) (len_tm (hbk k hk))) e_lit rfl, fun _ => e_loc rfl⟩) (by (first | lia | omega))
          rw [hfil] at this
          exact this
      · have hb' : bagT ops p = false := by simpa using hb
        exact ⟨b3, s_ifFN (e_of hc (by rw [hb'])) rfl⟩
    obtain ⟨c3, step⟩ := step
    obtain ⟨d2, d3, ih⟩ := isNormal_loop ho (n := n) (T := T) (σ := σ) l (.v (.d (toD p))) c3 fun q hq => h q (.tail _ hq)
    refine ⟨d2, d3, ?_⟩
    rw [List.map_cons, forGo, show bindT (.one 2) (toD p) [.v (.d (opsD ops)), .v (.d T), b2, b3, .un] = some [.v (.d (opsD ops)), .v (.d T), .v (.d (toD p)), b3, .un] from rfl, Option.bind_some, step, Option.bind_some]
    exact ih
theorem isNormal_run {ops : List Str} (ho : OpsOk ops) {t : Tm} (b : Bd t) (hok : ∀ p ∈ pre t, okPart ops p) (n : Nat) (σ : Sg) (hn : sz t + 2 ≤ n) : RR n 18 [.d (opsD ops), .d (toD t)] σ = some (.d (.bool true), σ) := by
  obtain ⟨n, rfl⟩ : ∃ k, n = k + 1 := ⟨n - 1, by (first | lia | omega)⟩
  have hs := b.s
  have hpl := pre_len t
  have hsz : ∀ p ∈ pre t, sz p ≤ sz t := by
    intro p
    induction t using tmInd with
    | _ o l ih =>
      intro hp
      rw [pre, pres_eq] at hp
      rcases List.mem_cons.mp hp with rfl | hp
      · exact Nat.le_refl _
      · obtain ⟨k, hk, hp⟩ := List.mem_flatMap.mp hp
        have h1 := sz_kid (o := o) hk
        have := ih k hk (b.kid hk) (fun q hq => hok q (pre_kid hk hq)) (by (first | lia | omega)) (b.kid hk).s (pre_len k) hp
        (first | lia | omega)
  obtain ⟨b2, b3, hgo⟩ := isNormal_loop ho (n := n) (T := toD t) (σ := σ) (pre t) .un .un fun p hp => ⟨b.pre p hp, hok p hp, by have := hsz p hp; (first | lia | omega)⟩
  exact run_of rfl rfl (s_for (σ₁ := σ) (eL_list (e_call (e_cons (e_loc rfl) e_nil) (all_run t b n σ (by (first | lia | omega)))) (by rw [List.length_map]; (first | lia | omega))) hgo (s_ret e_lit))
end Mine

end
noncomputable section
namespace Mine
open PySem
open Tm

/-! two kids each: bounds and run -/
section
variable (ops : List Str)
theorem chain_bounds (o : Str) : ∀ {l : List Tm}, l ≠ [] → sz (chain o l) + 1 = szs l + l.length ∧ lv (chain o l) = lvs l ∧ dp (chain o l) + 1 ≤ dps l + l.length
  | [], h => absurd rfl h
  | [x], _ => by
    refine ⟨?_, ?_, ?_⟩
    · simp [chain, szs]
    · simp [chain, lvs]
    · simp [chain, dps]
  | x :: y :: l, _ => by
    obtain ⟨h1, h2, h3⟩ := chain_bounds o (l := y :: l) (by simp)
    rw [chain, sz, szs, szs, szs, lv_node (by simp), lvs, lvs, lvs, dp, dps, dps, dps, szs, lvs, dps, h2]
    simp only [List.length_cons] at *
    (first | lia | omega)
theorem dps_le {l : List Tm} {n : Nat} (h : ∀ x ∈ l, dp x ≤ n) : dps l ≤ n := by
  induction l with
  | nil => exact Nat.zero_le _
  | cons x l ih =>
    rw [dps]
    have := h x (.head _)
    have := ih fun y hy => h y (.tail _ hy)
    (first | lia | omega)
theorem lvs_ge : ∀ {l : List Tm} {x : Tm}, x ∈ l → lv x + l.length ≤ lvs l + 1
  | y :: l, x, h => by
    rw [lvs, List.length_cons]
    rcases List.mem_cons.mp h with rfl | h
    · have := len_lvs l; (first | lia | omega)
    · have := lvs_ge h; have := lv_pos y; (first | lia | omega)
theorem szs_map2 {f : Tm → Tm} : ∀ {l : List Tm}, (∀ x ∈ l, sz (f x) + 1 ≤ 2 * sz x) → szs (l.map f) + l.length ≤ 2 * szs l
  | [], _ => Nat.le_refl _
  | t :: l, h => by rw [List.map_cons, szs, szs, List.length_cons]; have := h t (.head _); have := szs_map2 fun x hx => h x (.tail _ hx); (first | lia | omega)
theorem nested_bounds (t : Tm) : sz (nested ops t) + 1 ≤ 2 * sz t ∧ lv (nested ops t) ≤ lv t ∧ dp (nested ops t) + 1 ≤ dp t + lv t := by
  induction t using tmInd with
  | _ o l ih =>
    have a := szs_map2 (f := nested ops) (l := l) fun x hx => (ih x hx).1
    have b := lvs_map (f := nested ops) (l := l) fun x hx => (ih x hx).2.1
    by_cases hb : bagT ops (.node o l) = true
    · rw [nested_bag ops hb]
      show sz (chain o (l.map (nested ops))) + 1 ≤ _ ∧ lv (chain o (l.map (nested ops))) ≤ _ ∧ dp (chain o (l.map (nested ops))) + 1 ≤ _
      have h2 := bag_two ops hb
      have hne : l ≠ [] := by rintro rfl; simp [Tm.ks] at h2
      obtain ⟨h3, h4, h5⟩ := chain_bounds o (l := l.map (nested ops)) (by simpa using hne)
      rw [List.length_map] at h3 h5
      have hd : dps (l.map (nested ops)) + l.length ≤ dps l + lvs l := by
        have : ∀ x ∈ l.map (nested ops), dp x ≤ dps l + lvs l - l.length := fun x hx => by
          obtain ⟨k, hk, rfl⟩ := List.mem_map.mp hx
          have := (ih k hk).2.2
          have := dps_mem hk
          have := lvs_ge hk
          (first | lia | omega)
        have := dps_le this
        have := len_lvs l
        (first | lia | omega)
      rw [sz, lv_node hne, dp, h4]
      (first | lia | omega)
    · rw [nested_not ops hb]
      show sz (.node o (l.map (nested ops))) + 1 ≤ _ ∧ lv (.node o (l.map (nested ops))) ≤ _ ∧ dp (.node o (l.map (nested ops))) + 1 ≤ _
      cases l with
      | nil =>
        refine ⟨by simp [sz, szs], Nat.le_refl _, ?_⟩
        simp [dp, dps, lv]
      | cons y r =>
        have hd : dps ((y :: r).map (nested ops)) + 1 ≤ dps (y :: r) + lvs (y :: r) := by
          have : ∀ x ∈ (y :: r).map (nested ops), dp x ≤ dps (y :: r) + lvs (y :: r) - 1 := fun x hx => by
            obtain ⟨k, hk, rfl⟩ := List.mem_map.mp hx
            have := (ih k hk).2.2
            have := dps_mem hk
            have := lvs_mem hk
            (first | lia | omega)
          have := dps_le this
          have := len_lvs (y :: r)
          simp only [List.length_cons] at this
          (first | lia | omega)
        rw [sz, sz, lv_node (by simp), lv_node (by simp), dp, dp]
        (first | lia | omega)
theorem chain_good {o : Str} (ho : o ∈ al) {l : List Tm} (h : l ≠ []) (hl : ∀ x ∈ l, goodA x) : goodA (chain o l) :=
  chain_parts (Q := fun _ => True) (fun _ _ _ => trivial) (fun _ _ _ => trivial) (R := fun p => p.op ∈ al) (by cases l with | nil => exact absurd rfl h | cons x r => simp) (fun x hx p hp => hl x hx p hp) fun _ _ _ => ho
theorem nested_good (t : Tm) : goodA t → goodA (nested ops t) := by
  induction t using tmInd with
  | _ o l ih =>
    intro g
    by_cases hb : bagT ops (.node o l) = true
    · rw [nested_bag ops hb]
      have h2 := bag_two ops hb
      refine chain_good g.op (by intro e; rw [List.map_eq_nil_iff.mp e] at h2; simp at h2) fun x hx => ?_
      obtain ⟨k, hk, rfl⟩ := List.mem_map.mp hx
      exact ih k hk (g.kid hk)
    · rw [nested_not ops hb]
      intro p hp
      rw [pre, pres_eq] at hp
      rcases List.mem_cons.mp hp with rfl | hp
      · exact g.op
      · obtain ⟨k, hk, hp⟩ := List.mem_flatMap.mp hp
        obtain ⟨y, hy, rfl⟩ := List.mem_map.mp hk
        exact ih y hy (g.kid hy) p hp
theorem Bd.nested {t : Tm} (b : Bd t) (h1 : sz t ≤ 200) (h2 : dp t + lv t ≤ 50) : Bd (nested ops t) := by
  obtain ⟨a, c, d⟩ := nested_bounds ops t
  exact ⟨nested_good ops t b.g, by (first | lia | omega), by (first | lia | omega), Nat.le_trans c b.l⟩
theorem chain_snoc (o : Str) (x : Tm) : ∀ init : List Tm, chain o (init ++ [x]) = init.foldr (fun k a => .node o [k, a]) x
  | [] => rfl
  | [y] => rfl
  | y :: z :: r => by
    rw [List.foldr_cons, ← chain_snoc o x (z :: r)]; rfl
end
theorem nested_loop {n : Nat} {σ : Sg} {sv T so : V} {o : Str} (hT : ∃ l, T = .d (toD (.node o l))) : ∀ (r : List Tm) (late : Tm) (b3 : Bnd),
    ∃ b3', forGo (fun x ρ σ => (bindT (.one 3) x ρ).bind fun ρ' => evS gloF (RR n) (.asg 4 (Tup [.item (L 1) (I 0), L 3, L 4]) .nop) ρ' σ) (r.map toD) [.v sv, .v T, .v so, b3, .v (.d (toD late))] σ = some (.next [.v sv, .v T, .v so, b3', .v (.d (toD (r.foldl (fun a k => .node o [k, a]) late)))] σ)
  | [], late, b3 => ⟨b3, rfl⟩
  | k :: r, late, b3 => by
    obtain ⟨c3, ih⟩ := nested_loop hT r (.node o [k, late]) (.v (.d (toD k)))
    refine ⟨c3, ?_⟩
    obtain ⟨l, rfl⟩ := hT
    have step : evS gloF (RR n) (.asg 4 (Tup [.item (L 1) (I 0), L 3, L 4]) .nop) [.v sv, .v (.d (toD (.node o l))), .v so, .v (.d (toD k)), .v (.d (toD late))] σ = some (.next [.v sv, .v (.d (toD (.node o l))), .v so, .v (.d (toD k)), .v (.d (toD (.node o [k, late])))] σ) :=
      s_asg (σ₁ := σ) (e_tup (vs := [.d (.str o), .d (toD k), .d (toD late)]) (xs := [.str o, toD k, toD late]) (e_cons (σ₁ := σ) (e_item (σ₁ := σ) (e_loc rfl) e_lit intOk0 (item0 _)) (e_cons (e_loc rfl) (e_cons (e_loc rfl) e_nil))) rfl) rfl
    rw [List.map_cons, forGo, show bindT (.one 3) (toD k) [.v sv, .v (.d (toD (.node o l))), .v so, b3, .v (.d (toD late))] = some [.v sv, .v (.d (toD (.node o l))), .v so, .v (.d (toD k)), .v (.d (toD late))] from rfl, Option.bind_some, step, Option.bind_some]
    exact ih
theorem last_item {xs : List PyData} {x : PyData} : itemD (.list (xs ++ [x])) (-1) = some x := by
  show (idx (xs ++ [x]).length (-1)).bind _ = _
  unfold idx
  rw [List.length_append]
  simp only [List.length_cons, List.length_nil]
  rw [if_neg (by (first | lia | omega)), if_pos (by (first | lia | omega)), Option.bind_some]
  have : (-1 + ((xs.length + (0 + 1) : Nat) : Int)).toNat = xs.length := by (first | lia | omega)
  rw [this]
  simp
theorem nested_run {ops : List Str} (ho : OpsOk ops) (t : Tm) : Bd t → ∀ n σ, sz t + 2 ≤ n → RR n 8 [.me (opsD ops), .d (toD t)] σ = some (.d (toD (nested ops t)), σ) := by
  induction t using tmInd with
  | _ o l ih =>
    intro b n σ hn
    obtain ⟨n, rfl⟩ : ∃ k, n = k + 1 := ⟨n - 1, by (first | lia | omega)⟩
    obtain ⟨n', rfl⟩ : ∃ k, n = k + 1 := ⟨n - 1, by (first | lia | omega)⟩
    have hlen := b.len
    have em : (l.map fun k => toD (nested ops k)) = (l.map (nested ops)).map toD := by rw [List.map_map]; rfl
    refine run_of rfl rfl (s_asg (σ₁ := σ) (v := .d (.list (l.map fun k => toD (nested ops k)))) ?_ ?_)
    · exact e_comp (l := l) (m := toD) (g := fun k => toD (nested ops k)) (eL_tup (e_slc (e_loc rfl) (from1 b)) (by rw [List.length_map]; show l.length ≤ _; (first | lia | omega))) (fun k hk => ⟨_, rfl, e_meth (e_loc rfl) (e_cons (e_loc rfl) e_nil) (ih k hk (b.kid hk) (n' + 1) σ (by have := sz_kid (o := o) hk; (first | lia | omega)))⟩) (by (first | lia | omega))
    · have hc : ev gloF (RR (n' + 1)) (.notE (Meth 3 (L 0) [L 1])) [.v (.me (opsD ops)), .v (.d (toD (.node o l))), .v (.d (.list (l.map fun k => toD (nested ops k)))), .un, .un] σ = some ([.d (.bool (!bagT ops (.node o l)))], σ) :=
        e_not (e_meth (σ₁ := σ) (σ₂ := σ) (e_loc rfl) (e_cons (e_loc rfl) e_nil) (isBag_run ho b n' σ))
      by_cases h : bagT ops (.node o l) = true
      · refine s_ifFN (e_of hc (by rw [h]; rfl)) ?_
        have h2 := bag_two ops h
        obtain ⟨init, x, hl⟩ : ∃ init x, l.map (nested ops) = init ++ [x] := by
          have hne : l.map (nested ops) ≠ [] := by intro e; rw [List.map_eq_nil_iff.mp e] at h2; simp [Tm.ks] at h2
          exact ⟨_, _, (List.dropLast_concat_getLast hne).symm⟩
        have hil : init.length ≤ 400 := by
          have := congrArg List.length hl
          rw [List.length_map, List.length_append] at this
          simp only [List.length_cons, List.length_nil] at this
          (first | lia | omega)
        rw [nested_bag ops h]
        show evS _ _ _ _ _ = some (.ret (.d (toD (chain o (l.map (nested ops))))) σ)
        rw [em, hl, List.map_append]
        have hsl : slcD .revFrom2 (.list (init.map toD ++ [toD x])) = some (.list (init.reverse.map toD)) := by
          show (if (init.map toD ++ [toD x]).length ≤ lim then some (PyData.list (slcL .revFrom2 (init.map toD ++ [toD x]))) else none) = _
          rw [if_pos (by rw [List.length_append, List.length_map]; simp only [List.length_cons, List.length_nil]; unfold lim; (first | lia | omega))]
          show some (PyData.list (init.map toD ++ [toD x]).dropLast.reverse) = _
          rw [List.dropLast_concat, List.map_reverse]
        obtain ⟨b3, hgo⟩ := nested_loop (n := n' + 1) (σ := σ) (sv := .me (opsD ops)) (T := .d (toD (.node o l))) (so := .d (.list (init.map toD ++ [toD x]))) (o := o) ⟨l, rfl⟩ init.reverse x .un
        rw [List.foldl_reverse, ← chain_snoc] at hgo
        exact s_asg (σ₁ := σ) (e_item (σ₁ := σ) (σ₂ := σ) (e_loc rfl) e_lit intOk_neg1 last_item) (s_for (σ₁ := σ) (eL_list (e_slc (e_loc rfl) hsl) (by rw [List.length_map, List.length_reverse]; (first | lia | omega))) hgo (s_ret (e_loc rfl)))
      · have hb' : bagT ops (.node o l) = false := by simpa using h
        have hT : biD .tuple (.list (l.map fun k => toD (nested ops k))) = some (.tuple (l.map fun k => toD (nested ops k))) := mkT_ok (by rw [List.length_map]; (first | lia | omega))
        have hadd : binD .add (.tuple [.str o]) (.tuple (l.map fun k => toD (nested ops k))) = some (toD (nested ops (.node o l))) := by
          rw [nested_not ops h, toD, toDs_eq, em]
          exact mkT_ok (by rw [List.length_append, List.length_map, List.length_map]; simp only [List.length_cons, List.length_nil]; (first | lia | omega))
        exact s_ifTR (e_of hc (by rw [hb']; rfl)) (s_ret (e_bin (σ₁ := σ) (σ₂ := σ) (e_tup (e_cons (e_item (σ₁ := σ) (σ₂ := σ) (e_loc rfl) e_lit intOk0 (item0 _)) e_nil) rfl) (e_bi (e_loc rfl) hT) hadd))
end Mine

end
noncomputable section
namespace Mine
open PySem
open Tm

/-! the drawn numbers -/
noncomputable def big : Nat := 500000000000
theorem intOk_big {n : Nat} (h : n < big) : intOk (n : Int) = true := by
  unfold intOk
  unfold big at h
  simp only [Bool.and_eq_true, decide_eq_true_eq]
  (first | lia | omega)
theorem mkI_big {n : Nat} (h : n < big) : mkI (n : Int) = some (.int n) := by
  unfold mkI
  rw [if_pos (intOk_big h)]
theorem bin_add {a b : Nat} (h : a + b < big) : binD .add (.int a) (.int b) = some (.int ((a + b : Nat) : Int)) := by
  show (if (intOk (a : Int) && intOk (b : Int)) = true then mkI ((a : Int) + b) else none) = _
  rw [intOk_big (by (first | lia | omega)), intOk_big (by (first | lia | omega)), if_pos (show (true && true) = true from rfl), ← Int.natCast_add]
  exact mkI_big h
theorem bin_mul {a b : Nat} (ha : a < big) (hb : b < big) (h : a * b < big) : binD .mul (.int a) (.int b) = some (.int ((a * b : Nat) : Int)) := by
  show (if (intOk (a : Int) && intOk (b : Int)) = true then mkI ((a : Int) * b) else none) = _
  rw [intOk_big ha, intOk_big hb, if_pos (show (true && true) = true from rfl), ← Int.natCast_mul]
  exact mkI_big h
theorem bin_mod {a b : Nat} (ha : a < big) (hb : b < big) (h0 : 0 < b) : binD .mod (.int a) (.int b) = some (.int ((a % b : Nat) : Int)) := by
  show (if decide ((0 : Int) < b) = true then mkI ((a : Int) % b) else none) = _
  rw [decide_eq_true (show (0 : Int) < b by (first | lia | omega)), if_pos rfl, ← Int.natCast_emod]
  exact mkI_big (Nat.lt_of_le_of_lt (Nat.mod_le _ _) ha)
theorem bin_sub1 {a : Nat} (ha : a + 1 < big) : binD .sub (.int ((a + 1 : Nat) : Int)) (.int 1) = some (.int a) := by
  show (if (intOk ((a + 1 : Nat) : Int) && intOk ((1 : Nat) : Int)) = true then mkI (((a + 1 : Nat) : Int) - 1) else none) = _
  rw [intOk_big (by (first | lia | omega)), intOk_big (by decide), if_pos (show (true && true) = true from rfl)]
  have : ((a + 1 : Nat) : Int) - 1 = (a : Int) := by (first | lia | omega)
  rw [this]
  exact mkI_big (by (first | lia | omega))
noncomputable def cellD (c : Nat) : PyData := .int (c : Int)
noncomputable def sg (cs : List Nat) (k : Nat) : Sg := [(Str.ofString "cells", .list (cs.map cellD)), (Str.ofString "spot", .int (k : Int))]
structure Cells (cs : List Nat) : Prop where
  len : cs.length ≤ 60
  lt : ∀ c ∈ cs, c < 5040
theorem look_cells (cs : List Nat) (k : Nat) : (sg cs k).lookup (Str.ofString "cells") = some (.list (cs.map cellD)) := rfl
theorem look_spot (cs : List Nat) (k : Nat) : (sg cs k).lookup (Str.ofString "spot") = some (.int (k : Int)) := by
  unfold sg
  rw [List.lookup_cons]
  have : (Str.ofString "spot" == Str.ofString "cells") = false := by decide +kernel
  rw [this]
  rfl
theorem set_spot (cs : List Nat) (k j : Nat) : ((sg cs k).map fun p => if p.1 = Str.ofString "spot" then (Str.ofString "spot", PyData.int (j : Int)) else p) = sg cs j := by
  unfold sg
  have : ¬ (Str.ofString "cells" = Str.ofString "spot") := by decide +kernel
  simp only [List.map_cons, List.map_nil, if_true]
  rw [if_neg this]
section
variable {R : Ft} {ρ : List Bnd} {σ σ₁ : Sg} {e : E} {x : PyData} {r : Option Out} {S : Mine.S}
theorem s_fset {i : Nat} {key : Str} (h0 : ρ[i]? = some (.v .feed)) (h : ev gloF R e ρ σ = some ([.d x], σ₁)) (hl : ∃ d0, σ₁.lookup key = some d0) (k : evS gloF R S ρ (σ₁.map fun p => if p.1 = key then (key, x) else p) = r) : evS gloF R (.fset i key e S) ρ σ = r := by
  obtain ⟨d0, hl⟩ := hl
  simp only [evS, h0, h, oneD, Option.bind_some, hl]
  exact k
end
theorem next_run {cs : List Nat} (hc : Cells cs) {k wide : Nat} (hk : k ≤ 10000) (hw : 0 < wide) (hw2 : wide ≤ 100) (n : Nat) : ∃ v, v < wide ∧ RR (n + 1) 9 [.feed, .d (.int wide)] (sg cs k) = some (.d (.int (v : Int)), sg cs (k + 1)) := by
  have hlen := hc.len
  have hbb : big = 500000000000 := rfl
  have h1 : evS gloF (RR n) Fnext.body [.v .feed, .v (.d (.int (wide : Int))), .un] (sg cs k) = evS gloF (RR n) (.ifS (.cmp .lt (L 2) (.bi .len (.item (L 0) (Sx "cells")))) (.ret (.bin .mod (.item (.item (L 0) (Sx "cells")) (L 2)) (L 1))) .nop <| .ret (.bin .mod (.bin .mod (.bin .add (.bin .add (.bin .add (.bin .mul (.bin .mul (I 8) (L 2)) (L 2)) (.bin .mul (I 3) (L 2))) (I 5)) (.bin .mul (I 2) (.bi .len (.item (L 0) (Sx "cells"))))) (I 101)) (L 1))) [.v .feed, .v (.d (.int (wide : Int))), .v (.d (.int (k : Int)))] (sg cs (k + 1)) := by
    refine s_asg (σ₁ := sg cs k) (e_feed (e_loc rfl) (look_spot cs k)) (s_fset (σ₁ := sg cs k) rfl (e_bin (σ₁ := sg cs k) (σ₂ := sg cs k) (e_loc rfl) e_lit (bin_add (a := k) (b := 1) (by (first | lia | omega)))) ⟨_, look_spot cs k⟩ ?_)
    rw [set_spot]; rfl
  have hlc : biD .len (.list (cs.map cellD)) = some (.int (cs.length : Int)) := by
    show mkI (((cs.map cellD).length : Nat) : Int) = _
    rw [List.length_map]
    exact mkI_nat (by (first | lia | omega))
  have hcl : ∀ ρ : List Bnd, ρ[0]? = some (.v .feed) → ev gloF (RR n) (.item (L 0) (Sx "cells")) ρ (sg cs (k + 1)) = some ([.d (.list (cs.map cellD))], sg cs (k + 1)) := fun ρ h => e_feed (e_loc h) (look_cells cs (k + 1))
  by_cases h : k < cs.length
  · refine ⟨cs[k] % wide, Nat.mod_lt _ hw, run_of rfl rfl (h1.trans (s_ifTR (σ₁ := sg cs (k + 1)) (e_of (e_cmp (σ₁ := sg cs (k + 1)) (σ₂ := sg cs (k + 1)) (e_loc rfl) (e_bi (hcl _ rfl) hlc) rfl) ?_) (s_ret ?_)))⟩
    · rw [decide_eq_true (by (first | lia | omega))]
    · have hi : itemD (.list (cs.map cellD)) (k : Int) = some (.int (cs[k] : Int)) := by
        show (idx (cs.map cellD).length (k : Int)).bind _ = _
        unfold idx
        rw [List.length_map, if_pos (by (first | lia | omega)), if_pos (by (first | lia | omega)), Option.bind_some]
        simp [h, cellD]
      have hm := hc.lt cs[k] (List.getElem_mem h)
      exact e_bin (σ₁ := sg cs (k + 1)) (σ₂ := sg cs (k + 1)) (e_item (σ₁ := sg cs (k + 1)) (hcl _ rfl) (e_loc rfl) (intOk_big (by (first | lia | omega))) hi) (e_loc rfl) (bin_mod (by (first | lia | omega)) (by (first | lia | omega)) hw)
  · have hkk : 8 * k * k ≤ 8 * 10000 * 10000 := Nat.mul_le_mul (Nat.mul_le_mul_left 8 hk) hk
    refine ⟨(8 * k * k + 3 * k + 5 + 2 * cs.length) % 101 % wide, Nat.mod_lt _ hw, run_of rfl rfl (h1.trans (s_ifFN (σ₁ := sg cs (k + 1)) (e_of (e_cmp (σ₁ := sg cs (k + 1)) (σ₂ := sg cs (k + 1)) (e_loc rfl) (e_bi (hcl _ rfl) hlc) rfl) ?_) (s_ret ?_)))⟩
    · rw [decide_eq_false (by (first | lia | omega))]
    · refine e_bin (σ₁ := sg cs (k + 1)) (σ₂ := sg cs (k + 1)) (e_bin (σ₁ := sg cs (k + 1)) (σ₂ := sg cs (k + 1)) (e_bin (σ₁ := sg cs (k + 1)) (σ₂ := sg cs (k + 1)) (e_bin (σ₁ := sg cs (k + 1)) (σ₂ := sg cs (k + 1)) (e_bin (σ₁ := sg cs (k + 1)) (σ₂ := sg cs (k + 1)) (e_bin (σ₁ := sg cs (k + 1)) (σ₂ := sg cs (k + 1)) (e_bin (σ₁ := sg cs (k + 1)) (σ₂ := sg cs (k + 1)) e_lit (e_loc rfl) (bin_mul (a := 8) (b := k) (by (first | lia | omega)) (by (first | lia | omega)) (by (first | lia | omega)))) (e_loc rfl) (bin_mul (by (first | lia | omega)) (by (first | lia | omega)) (by (first | lia | omega)))) (e_bin (σ₁ := sg cs (k + 1)) (σ₂ := sg cs (k + 1)) e_lit (e_loc rfl) (bin_mul (a := 3) (b := k) (by (first | lia | omega)) (by (first | lia | omega)) (by (first | lia | omega)))) (bin_add (by (first | lia | omega)))) e_lit (bin_add (b := 5) (by (first | lia | omega)))) (e_bin (σ₁ := sg cs (k + 1)) (σ₂ := sg cs (k + 1)) e_lit (e_bi (hcl _ rfl) hlc) (bin_mul (a := 2) (by (first | lia | omega)) (by (first | lia | omega)) (by (first | lia | omega)))) (bin_add (by (first | lia | omega)))) e_lit (bin_mod (b := 101) (by (first | lia | omega)) (by (first | lia | omega)) (by (first | lia | omega)))) (e_loc rfl) (bin_mod (Nat.lt_of_lt_of_le (Nat.mod_lt _ (by (first | lia | omega))) (by (first | lia | omega))) (by (first | lia | omega)) hw)

theorem dec_iff {p q : Prop} [Decidable p] [Decidable q] (h : p ↔ q) : PyData.bool (decide p) = PyData.bool (decide q) := by rw [decide_eq_decide.mpr h]
/-! drawn terms -/
structure Small (t : Tm) (s d l : Nat) : Prop where
  g : goodA t
  s : sz t ≤ s
  d : dp t ≤ d
  l : lv t ≤ l
theorem al_mem {x : String} (h : (al.contains (Str.ofString x)) = true) : Str.ofString x ∈ al := by simpa using h
theorem leaf_small {o : Str} (h : o ∈ al) : Small (.node o []) 1 1 1 :=
  ⟨fun p hp => by rw [pre, pres] at hp; rw [List.mem_singleton.mp hp]; exact h, by simp [sz, szs], by simp [dp, dps], by simp [lv]⟩
theorem goodA_node {o : Str} {l : List Tm} (h : o ∈ al) (hl : ∀ k ∈ l, goodA k) : goodA (.node o l) := fun p hp => by
  rw [pre, pres_eq] at hp
  rcases List.mem_cons.mp hp with rfl | hp
  · exact h
  · obtain ⟨k, hk, hp⟩ := List.mem_flatMap.mp hp
    exact hl k hk p hp
theorem leaf_item (v : Nat) (h : v < 4) : ∃ o ∈ al, itemD leaves (v : Int) = some (toD (.node o [])) := by
  match v, h with
  | 0, _ => exact ⟨Str.ofString "a", al_mem (by decide +kernel), rfl⟩
  | 1, _ => exact ⟨Str.ofString "b", al_mem (by decide +kernel), rfl⟩
  | 2, _ => exact ⟨Str.ofString "?x", al_mem (by decide +kernel), rfl⟩
  | 3, _ => exact ⟨Str.ofString "s", al_mem (by decide +kernel), rfl⟩
theorem fs_item (v : Nat) (h : v < 2) : ∃ o ∈ al, itemD (.tuple [.str (Str.ofString "f"), .str (Str.ofString "s")]) (v : Int) = some (.str o) := by
  match v, h with
  | 0, _ => exact ⟨Str.ofString "f", al_mem (by decide +kernel), rfl⟩
  | 1, _ => exact ⟨Str.ofString "s", al_mem (by decide +kernel), rfl⟩
noncomputable def kD : Nat → Nat
  | 0 => 1
  | d + 1 => 3 * kD d + 2
noncomputable def sD : Nat → Nat
  | 0 => 1
  | d + 1 => 3 * sD d + 1
noncomputable def lD : Nat → Nat
  | 0 => 1
  | d + 1 => 3 * lD d
theorem sD_pos : ∀ d, 1 ≤ sD d
  | 0 => Nat.le_refl _
  | d + 1 => by rw [sD]; (first | lia | omega)
theorem lD_pos : ∀ d, 1 ≤ lD d
  | 0 => Nat.le_refl _
  | d + 1 => by rw [lD]; have := lD_pos d; (first | lia | omega)
theorem term_run {cs : List Nat} (hc : Cells cs) : ∀ (deep : Nat), deep ≤ 3 → ∀ (k : Nat), k + kD deep ≤ 10000 → ∀ n, deep + 2 ≤ n → ∃ t k', Small t (sD deep) (deep + 1) (lD deep) ∧ k' ≤ k + kD deep ∧ RR n 10 [.feed, .d (.int (deep : Int))] (sg cs k) = some (.d (toD t), sg cs k')
  | 0, _, k, hk, n, hn => by
    obtain ⟨n, rfl⟩ : ∃ m, n = m + 1 := ⟨n - 1, by (first | lia | omega)⟩
    obtain ⟨n, rfl⟩ : ∃ m, n = m + 1 := ⟨n - 1, by (first | lia | omega)⟩
    rw [kD] at hk
    obtain ⟨v, hv, hr⟩ := next_run hc (k := k) (wide := 4) (by (first | lia | omega)) (by (first | lia | omega)) (by (first | lia | omega)) n
    obtain ⟨o, ho, hi⟩ := leaf_item v hv
    refine ⟨.node o [], k + 1, leaf_small ho, by rw [kD]; (first | lia | omega), run_of rfl rfl (s_asg (σ₁ := sg cs k) (v := .d (.int 0)) (e_ite (σ₁ := sg cs k) (t := false) (e_cmp (σ₁ := sg cs k) (σ₂ := sg cs k) (e_loc rfl) e_lit rfl) (fun h => by cases h) fun _ => e_lit) (s_ifTR (σ₁ := sg cs k) (e_cmp (σ₁ := sg cs k) (σ₂ := sg cs k) (e_loc rfl) e_lit rfl) (s_ret (e_item (σ₁ := sg cs k) e_lit (e_call (e_cons (e_loc rfl) (e_cons e_lit e_nil)) hr) (intOk_nat (by (first | lia | omega))) hi))))⟩
  | deep + 1, hd, k, hk, n, hn => by
    obtain ⟨n, rfl⟩ : ∃ m, n = m + 1 := ⟨n - 1, by (first | lia | omega)⟩
    obtain ⟨n', rfl⟩ : ∃ m, n = m + 1 := ⟨n - 1, by (first | lia | omega)⟩
    rw [kD] at hk
    have hsp := sD_pos deep
    have hlp := lD_pos deep
    obtain ⟨way, hway, hr⟩ := next_run hc (k := k) (wide := 8) (by (first | lia | omega)) (by (first | lia | omega)) (by (first | lia | omega)) n'
    have hw0 : ev gloF (RR (n' + 1)) (.ite (.cmp .gt (L 1) (I 0)) (Call 9 [L 0, I 8]) (I 0)) [.v .feed, .v (.d (.int ((deep + 1 : Nat) : Int))), .un, .un, .un, .un] (sg cs k) = some ([.d (.int (way : Int))], sg cs (k + 1)) :=
      e_ite (σ₁ := sg cs k) (t := true) (e_of (e_cmp (σ₁ := sg cs k) (σ₂ := sg cs k) (e_loc rfl) e_lit rfl) (by rw [decide_eq_true (by (first | lia | omega))])) (fun _ => e_call (e_cons (e_loc rfl) (e_cons e_lit e_nil)) hr) fun h => by cases h
    have hsub : ∀ (ρ : List Bnd) (σ : Sg), ρ[1]? = some (.v (.d (.int ((deep + 1 : Nat) : Int)))) → ev gloF (RR (n' + 1)) (.bin .sub (L 1) (I 1)) ρ σ = some ([.d (.int (deep : Int))], σ) := fun ρ σ h => e_bin (σ₁ := σ) (e_loc h) e_lit (bin_sub1 (by have : big = 500000000000 := rfl; (first | lia | omega)))
    have lt2 : ∀ (ρ : List Bnd) (σ : Sg) (m : Nat), ρ[2]? = some (.v (.d (.int (way : Int)))) → ev gloF (RR (n' + 1)) (.cmp .lt (L 2) (I (m : Int))) ρ σ = some ([.d (.bool (decide (way < m)))], σ) := fun ρ σ m h => e_of (e_cmp (σ₁ := σ) (σ₂ := σ) (e_loc h) e_lit rfl) (dec_iff (by (first | lia | omega)))
    have gt2 : ∀ (ρ : List Bnd) (σ : Sg) (m : Nat), ρ[2]? = some (.v (.d (.int (way : Int)))) → ev gloF (RR (n' + 1)) (.cmp .gt (L 2) (I (m : Int))) ρ σ = some ([.d (.bool (decide (m < way)))], σ) := fun ρ σ m h => e_of (e_cmp (σ₁ := σ) (σ₂ := σ) (e_loc h) e_lit rfl) (dec_iff (by (first | lia | omega)))
    have eq2 : ∀ (ρ : List Bnd) (σ : Sg) (m : Nat), ρ[2]? = some (.v (.d (.int (way : Int)))) → ev gloF (RR (n' + 1)) (.cmp .eq (L 2) (I (m : Int))) ρ σ = some ([.d (.bool (decide (way = m)))], σ) := fun ρ σ m h => e_of (e_cmp (σ₁ := σ) (σ₂ := σ) (e_loc h) e_lit (eq_int _ _)) (dec_iff (by (first | lia | omega)))
    by_cases h2 : way < 2
    · obtain ⟨v, hv, hr2⟩ := next_run hc (k := k + 1) (wide := 4) (by (first | lia | omega)) (by (first | lia | omega)) (by (first | lia | omega)) n'
      obtain ⟨o, ho, hi⟩ := leaf_item v hv
      have ls := leaf_small ho
      refine ⟨.node o [], k + 1 + 1, ⟨ls.g, by rw [sD]; have := ls.s; (first | lia | omega), by have := ls.d; (first | lia | omega), by rw [lD]; have := ls.l; (first | lia | omega)⟩, by rw [kD]; (first | lia | omega), run_of rfl rfl (s_asg (σ₁ := sg cs (k + 1)) hw0 (s_ifTR (σ₁ := sg cs (k + 1)) (e_of (lt2 _ _ 2 rfl) (by rw [decide_eq_true h2])) (s_ret (e_item (σ₁ := sg cs (k + 1)) e_lit (e_call (e_cons (e_loc rfl) (e_cons e_lit e_nil)) hr2) (intOk_nat (by (first | lia | omega))) hi))))⟩
    · obtain ⟨one, k1, s1, hk1, r1⟩ := term_run hc deep (by (first | lia | omega)) (k + 1) (by (first | lia | omega)) (n' + 1) (by (first | lia | omega))
      have step1 : ∀ {r : Option Out} {S : Mine.S}, evS gloF (RR (n' + 1)) S [.v .feed, .v (.d (.int ((deep + 1 : Nat) : Int))), .v (.d (.int (way : Int))), .v (.d (toD one)), .un, .un] (sg cs k1) = r → evS gloF (RR (n' + 1)) (.asg 3 (Call 10 [L 0, .bin .sub (L 1) (I 1)]) S) [.v .feed, .v (.d (.int ((deep + 1 : Nat) : Int))), .v (.d (.int (way : Int))), .un, .un, .un] (sg cs (k + 1)) = r := fun h => s_asg (σ₁ := sg cs k1) (e_call (e_cons (e_loc rfl) (e_cons (hsub _ _ rfl) e_nil)) r1) h
      by_cases h3 : way = 2
      · obtain ⟨v, hv, hr2⟩ := next_run hc (k := k1) (wide := 2) (by (first | lia | omega)) (by (first | lia | omega)) (by (first | lia | omega)) n'
        have hi := fs_item v hv
        obtain ⟨o, ho, hi⟩ := hi
        refine ⟨.node o [one], k1 + 1, ⟨goodA_node ho (by intro x hx; rw [List.mem_singleton.mp hx]; exact s1.g), ?_, ?_, ?_⟩, by rw [kD]; (first | lia | omega), run_of rfl rfl (s_asg (σ₁ := sg cs (k + 1)) hw0 (s_ifFN (σ₁ := sg cs (k + 1)) (e_of (lt2 _ _ 2 rfl) (by rw [decide_eq_false h2])) (step1 (s_ifTR (σ₁ := sg cs k1) (e_of (eq2 _ _ 2 rfl) (by rw [decide_eq_true h3])) (s_ret (e_tup (xs := [.str o, toD one]) (vs := [.d (.str o), .d (toD one)]) (e_cons (σ₁ := sg cs (k1 + 1)) (e_item (σ₁ := sg cs k1) (e_tup (e_cons e_lit (e_cons e_lit e_nil)) rfl) (e_call (e_cons (e_loc rfl) (e_cons e_lit e_nil)) hr2) (intOk_nat (by (first | lia | omega))) hi) (e_cons (e_loc rfl) e_nil)) rfl))))))⟩
        · have := s1.s; rw [sz, szs, szs, sD]; (first | lia | omega)
        · have := s1.d; rw [dp, dps, dps]; (first | lia | omega)
        · have := s1.l; rw [lv_node (by simp), lvs, lvs, lD]; (first | lia | omega)
      · obtain ⟨other, k2, s2, hk2, r2⟩ := term_run hc deep (by (first | lia | omega)) k1 (by (first | lia | omega)) (n' + 1) (by (first | lia | omega))
        have step2 : ∀ {r : Option Out} {S : Mine.S}, evS gloF (RR (n' + 1)) S [.v .feed, .v (.d (.int ((deep + 1 : Nat) : Int))), .v (.d (.int (way : Int))), .v (.d (toD one)), .v (.d (toD other)), .un] (sg cs k2) = r → evS gloF (RR (n' + 1)) (.asg 4 (Call 10 [L 0, .bin .sub (L 1) (I 1)]) S) [.v .feed, .v (.d (.int ((deep + 1 : Nat) : Int))), .v (.d (.int (way : Int))), .v (.d (toD one)), .un, .un] (sg cs k1) = r := fun h => s_asg (σ₁ := sg cs k2) (e_call (e_cons (e_loc rfl) (e_cons (hsub _ _ rfl) e_nil)) r2) h
        have pre2 : ∀ {r : Option (V × Sg)} {v : V} {σ' : Sg}, evS gloF (RR (n' + 1)) (.ifS (.cmp .eq (L 2) (I 3)) (.ret (Tup [Sx "g", L 3, L 4])) .nop <| .asg 5 (.ite (.andE (.cmp .gt (L 2) (I 5)) (.cmp .lt (L 1) (I 3))) (Tup [Call 10 [L 0, .bin .sub (L 1) (I 1)]]) (Tup [])) <| .ret (.bin .add (Tup [.ite (.cmp .eq (.bin .mod (L 2) (I 2)) (I 0)) (Sx "s") (Sx "p"), L 3, L 4]) (L 5))) [.v .feed, .v (.d (.int ((deep + 1 : Nat) : Int))), .v (.d (.int (way : Int))), .v (.d (toD one)), .v (.d (toD other)), .un] (sg cs k2) = some (.ret v σ') → RR (n' + 1 + 1) 10 [.feed, .d (.int ((deep + 1 : Nat) : Int))] (sg cs k) = some (v, σ') := fun h =>
          run_of rfl rfl (s_asg (σ₁ := sg cs (k + 1)) hw0 (s_ifFN (σ₁ := sg cs (k + 1)) (e_of (lt2 _ _ 2 rfl) (by rw [decide_eq_false h2])) (step1 (s_ifFN (σ₁ := sg cs k1) (e_of (eq2 _ _ 2 rfl) (by rw [decide_eq_false h3])) (step2 h)))))
        by_cases h4 : way = 3
        · refine ⟨.node (Str.ofString "g") [one, other], k2, ⟨goodA_node (al_mem (by decide +kernel)) ?_, ?_, ?_, ?_⟩, by rw [kD]; (first | lia | omega), pre2 (r := none) (s_ifTR (σ₁ := sg cs k2) (e_of (eq2 _ _ 3 rfl) (by rw [decide_eq_true h4])) (s_ret (e_tup (xs := [.str (Str.ofString "g"), toD one, toD other]) (vs := [.d (.str (Str.ofString "g")), .d (toD one), .d (toD other)]) (e_cons e_lit (e_cons (e_loc rfl) (e_cons (e_loc rfl) e_nil))) rfl)))⟩
          · intro x hx
            simp only [List.mem_cons, List.not_mem_nil, or_false] at hx
            rcases hx with rfl | rfl
            · exact s1.g
            · exact s2.g
          · have := s1.s; have := s2.s; rw [sz, szs, szs, szs, sD]; (first | lia | omega)
          · have := s1.d; have := s2.d; rw [dp, dps, dps, dps]; (first | lia | omega)
          · have := s1.l; have := s2.l; rw [lv_node (by simp), lvs, lvs, lvs, lD]; (first | lia | omega)
        · -- an op that does not care
          have hop : ∃ o ∈ al, ∀ (ρ : List Bnd) (σ : Sg), ρ[2]? = some (.v (.d (.int (way : Int)))) → ev gloF (RR (n' + 1)) (.ite (.cmp .eq (.bin .mod (L 2) (I 2)) (I 0)) (Sx "s") (Sx "p")) ρ σ = some ([.d (.str o)], σ) := by
            have hm : ∀ (ρ : List Bnd) (σ : Sg), ρ[2]? = some (.v (.d (.int (way : Int)))) → ev gloF (RR (n' + 1)) (.cmp .eq (.bin .mod (L 2) (I 2)) (I 0)) ρ σ = some ([.d (.bool (decide (((way % 2 : Nat) : Int) = 0)))], σ) := fun ρ σ h =>
              e_cmp (σ₁ := σ) (σ₂ := σ) (e_bin (σ₁ := σ) (σ₂ := σ) (e_loc h) e_lit (bin_mod (b := 2) (by have : big = 500000000000 := rfl; (first | lia | omega)) (by decide) (by decide))) e_lit (eq_int _ _)
            by_cases hz : ((way % 2 : Nat) : Int) = 0
            · exact ⟨Str.ofString "s", al_mem (by decide +kernel), fun ρ σ h => e_ite (σ₁ := σ) (t := true) (e_of (hm ρ σ h) (by rw [decide_eq_true hz])) (fun _ => e_lit) fun h => by cases h⟩
            · exact ⟨Str.ofString "p", al_mem (by decide +kernel), fun ρ σ h => e_ite (σ₁ := σ) (t := false) (e_of (hm ρ σ h) (by rw [decide_eq_false hz])) (fun h => by cases h) fun _ => e_lit⟩
          obtain ⟨o, hoa, hoe⟩ := hop
          have hcnd : ev gloF (RR (n' + 1)) (.andE (.cmp .gt (L 2) (I 5)) (.cmp .lt (L 1) (I 3))) [.v .feed, .v (.d (.int ((deep + 1 : Nat) : Int))), .v (.d (.int (way : Int))), .v (.d (toD one)), .v (.d (toD other)), .un] (sg cs k2) = some ([.d (.bool (decide (5 < way) && decide (deep + 1 < 3)))], sg cs k2) :=
            e_and (gt2 _ _ 5 rfl) fun _ => e_of (e_cmp (σ₁ := sg cs k2) (σ₂ := sg cs k2) (e_loc rfl) e_lit rfl) (dec_iff (by (first | lia | omega)))
          by_cases h5 : (decide (5 < way) && decide (deep + 1 < 3)) = true
          · obtain ⟨third, k3, s3, hk3, r3⟩ := term_run hc deep (by (first | lia | omega)) k2 (by (first | lia | omega)) (n' + 1) (by (first | lia | omega))
            refine ⟨.node o [one, other, third], k3, ⟨goodA_node hoa ?_, ?_, ?_, ?_⟩, by rw [kD]; (first | lia | omega), pre2 (r := none) (s_ifFN (σ₁ := sg cs k2) (e_of (eq2 _ _ 3 rfl) (by rw [decide_eq_false h4])) (s_asg (σ₁ := sg cs k3) (v := .d (.tuple [toD third])) (e_ite (σ₁ := sg cs k2) (t := true) (e_of hcnd (by rw [h5])) (fun _ => e_tup (e_cons (e_call (e_cons (e_loc rfl) (e_cons (hsub _ _ rfl) e_nil)) r3) e_nil) rfl) fun h => by cases h) (s_ret (e_bin (σ₁ := sg cs k3) (σ₂ := sg cs k3) (x := .tuple [.str o, toD one, toD other]) (e_tup (vs := [.d (.str o), .d (toD one), .d (toD other)]) (e_cons (σ₁ := sg cs k3) (hoe _ _ rfl) (e_cons (e_loc rfl) (e_cons (e_loc rfl) e_nil))) rfl) (e_loc rfl) (show mkT _ = _ from mkT_ok (by simp))))))⟩
            · intro x hx
              simp only [List.mem_cons, List.not_mem_nil, or_false] at hx
              rcases hx with rfl | rfl | rfl
              · exact s1.g
              · exact s2.g
              · exact s3.g
            · have := s1.s; have := s2.s; have := s3.s; rw [sz, szs, szs, szs, szs, sD]; (first | lia | omega)
            · have := s1.d; have := s2.d; have := s3.d; rw [dp, dps, dps, dps, dps]; (first | lia | omega)
            · have := s1.l; have := s2.l; have := s3.l; rw [lv_node (by simp), lvs, lvs, lvs, lvs, lD]; (first | lia | omega)
          · have h5' : (decide (5 < way) && decide (deep + 1 < 3)) = false := by simpa using h5
            refine ⟨.node o [one, other], k2, ⟨goodA_node hoa ?_, ?_, ?_, ?_⟩, by rw [kD]; (first | lia | omega), pre2 (r := none) (s_ifFN (σ₁ := sg cs k2) (e_of (eq2 _ _ 3 rfl) (by rw [decide_eq_false h4])) (s_asg (σ₁ := sg cs k2) (v := .d (.tuple [])) (e_ite (σ₁ := sg cs k2) (t := false) (e_of hcnd (by rw [h5'])) (fun h => by cases h) fun _ => e_tup e_nil rfl) (s_ret (e_bin (σ₁ := sg cs k2) (σ₂ := sg cs k2) (x := .tuple [.str o, toD one, toD other]) (e_tup (vs := [.d (.str o), .d (toD one), .d (toD other)]) (e_cons (σ₁ := sg cs k2) (hoe _ _ rfl) (e_cons (e_loc rfl) (e_cons (e_loc rfl) e_nil))) rfl) (e_loc rfl) (show mkT _ = _ from mkT_ok (by simp))))))⟩
            · intro x hx
              simp only [List.mem_cons, List.not_mem_nil, or_false] at hx
              rcases hx with rfl | rfl
              · exact s1.g
              · exact s2.g
            · have := s1.s; have := s2.s; rw [sz, szs, szs, szs, sD]; (first | lia | omega)
            · have := s1.d; have := s2.d; rw [dp, dps, dps, dps]; (first | lia | omega)
            · have := s1.l; have := s2.l; rw [lv_node (by simp), lvs, lvs, lvs, lD]; (first | lia | omega)
end Mine

end
noncomputable section
namespace Mine
open PySem
open Tm

theorem snoc_of {l : List Tm} (h : l ≠ []) : ∃ init x, l = init ++ [x] := ⟨_, _, (List.dropLast_concat_getLast h).symm⟩
theorem last_itemT {xs : List PyData} {x : PyData} : itemD (.tuple (xs ++ [x])) (-1) = some x := by
  show (idx (xs ++ [x]).length (-1)).bind _ = _
  unfold idx
  rw [List.length_append]
  simp only [List.length_cons, List.length_nil]
  rw [if_neg (by (first | lia | omega)), if_pos (by (first | lia | omega)), Option.bind_some]
  have : (-1 + ((xs.length + (0 + 1) : Nat) : Int)).toNat = xs.length := by (first | lia | omega)
  rw [this]
  simp
theorem tupA : toD (.node (Str.ofString "a") []) = .tuple [.str (Str.ofString "a")] := rfl
theorem bent_run (t : Tm) : Bd t → ∀ n σ, sz t ≤ n → ∃ t', goodA t' ∧ sz t' = sz t ∧ dp t' = dp t ∧ lv t' = lv t ∧ RR n 12 [.d (toD t)] σ = some (.d (toD t'), σ) := by
  induction t using tmInd with
  | _ o l ih =>
    intro b n σ hn
    have hsz := sz_pos (.node o l)
    obtain ⟨n, rfl⟩ : ∃ k, n = k + 1 := ⟨n - 1, by (first | lia | omega)⟩
    have hlen := b.len
    have hc : ev gloF (RR n) (.cmp .eq (.bi .len (L 0)) (I 1)) [.v (.d (toD (.node o l)))] σ = some ([.d (.bool (decide (((l.length + 1 : Nat) : Int) = 1)))], σ) := e_cmp (σ₁ := σ) (σ₂ := σ) (e_bi (e_loc rfl) (len_toD hlen)) e_lit (eq_int _ _)
    by_cases h : l = []
    · subst h
      have ba : Bd (.node (Str.ofString "a") []) := by
        have := leaf_small (o := Str.ofString "a") (al_mem (by decide +kernel))
        exact ⟨this.g, Nat.le_trans this.s (by decide), Nat.le_trans this.d (by decide), Nat.le_trans this.l (by decide)⟩
      have hA : okD (.tuple [.str (Str.ofString "a")]) = true := tupA ▸ ba.ok
      have hc2 : ev gloF (RR n) (.cmp .eq (L 0) (Tup [Sx "a"])) [.v (.d (toD (.node o [])))] σ = some ([.d (.bool (PyData.eqv (toD (.node o [])) (.tuple [.str (Str.ofString "a")])))], σ) :=
        e_cmp (σ₁ := σ) (σ₂ := σ) (e_loc rfl) (e_tup (e_cons e_lit e_nil) rfl) (cmp_eq b.ok hA)
      cases q : PyData.eqv (toD (.node o [])) (.tuple [.str (Str.ofString "a")]) with
      | true =>
        exact ⟨.node (Str.ofString "b") [], (leaf_small (al_mem (by decide +kernel))).g, rfl, rfl, rfl, run_of rfl rfl (s_ifTR (σ₁ := σ) (e_of hc (by rw [decide_eq_true]; rfl)) (s_ret (e_ite (σ₁ := σ) (t := true) (e_of hc2 (by rw [q])) (fun _ => e_tup (xs := [.str (Str.ofString "b")]) (e_cons e_lit e_nil) rfl) fun h => by cases h)))⟩
      | false =>
        exact ⟨.node (Str.ofString "a") [], ba.g, rfl, rfl, rfl, run_of rfl rfl (s_ifTR (σ₁ := σ) (e_of hc (by rw [decide_eq_true]; rfl)) (s_ret (e_ite (σ₁ := σ) (t := false) (e_of hc2 (by rw [q])) (fun h => by cases h) fun _ => e_tup (xs := [.str (Str.ofString "a")]) (e_cons e_lit e_nil) rfl)))⟩
    · obtain ⟨init, x, rfl⟩ := snoc_of h
      have hx : x ∈ init ++ [x] := by simp
      obtain ⟨x', g', s', d', l', r'⟩ := ih x hx (b.kid hx) n σ (by have := sz_kid (o := o) hx; (first | lia | omega))
      have hil : init.length + 1 ≤ 400 := by rw [List.length_append] at hlen; simpa using hlen
      have e0 : toD (.node o (init ++ [x])) = .tuple ((.str o :: init.map toD) ++ [toD x]) := by rw [toD, toDs_eq, List.map_append]; rfl
      have e1 : toD (.node o (init ++ [x'])) = .tuple ((.str o :: init.map toD) ++ [toD x']) := by rw [toD, toDs_eq, List.map_append]; rfl
      have hsl : slcD .butLast (toD (.node o (init ++ [x]))) = some (.tuple (.str o :: init.map toD)) := by
        rw [e0]
        show (if 1 ≤ ((PyData.str o :: init.map toD) ++ [toD x]).length ∧ ((PyData.str o :: init.map toD) ++ [toD x]).length ≤ lim then some (PyData.tuple ((PyData.str o :: init.map toD) ++ [toD x]).dropLast) else none) = _
        rw [if_pos ⟨by rw [List.length_append]; simp, by rw [List.length_append, List.length_cons, List.length_map]; simp only [List.length_cons, List.length_nil]; unfold lim; (first | lia | omega)⟩, List.dropLast_concat]
      have hit : itemD (toD (.node o (init ++ [x]))) (-1) = some (toD x) := by rw [e0]; exact last_itemT
      refine ⟨.node o (init ++ [x']), ?_, ?_, ?_, ?_, run_of rfl rfl (s_ifFN (σ₁ := σ) (e_of hc (by rw [decide_eq_false]; rw [List.length_append]; simp only [List.length_cons, List.length_nil]; (first | lia | omega))) (s_ret (e_bin (σ₁ := σ) (σ₂ := σ) (e_slc (e_loc rfl) hsl) (e_tup (e_cons (e_call (e_cons (e_item (σ₁ := σ) (σ₂ := σ) (e_loc rfl) e_lit intOk_neg1 hit) e_nil) r') e_nil) rfl) ?_)))⟩
      · refine goodA_node b.g.op fun k hk => ?_
        rcases List.mem_append.mp hk with hk | hk
        · exact b.g.kid (List.mem_append.mpr (.inl hk))
        · rw [List.mem_singleton.mp hk]; exact g'
      · rw [sz, sz, szs_append, szs_append, szs, szs, szs, szs, s']
      · rw [dp, dp, dps_append, dps_append, dps, dps, dps, dps, d']
      · rw [lv_node (by simp), lv_node (by simp), lvs_append, lvs_append, lvs, lvs, lvs, lvs, l']
      · rw [e1]
        exact mkT_ok (by rw [List.length_append, List.length_cons, List.length_map]; simp only [List.length_cons, List.length_nil]; (first | lia | omega))

/-! moves -/
section
variable {R : Ft} {ρ : List Bnd} {σ σ₁ σ₂ : Sg} {e it a b : E} {xs ys : List PyData} {t : Tgt}
theorem e_compS (hi : oneL (ev gloF R it ρ σ) = some (xs, σ₁)) (hgo : compGo (fun x σ => (bindT t x ρ).bind fun ρ' => (oneD (ev gloF R e ρ' σ)).bind fun p => some ([p.1], p.2)) xs σ₁ = some (ys, σ₂)) (hl : ys.length ≤ 100000) : ev gloF R (.comp e t it (.lit (.bool true))) ρ σ = some ([.d (.list ys)], σ₂) := by
  simp only [ev, hi, Option.bind_some, oneB, if_true]
  rw [hgo, Option.bind_some, mkL_ok hl, Option.bind_some]
theorem e_andT {u : Bool} (h1 : ev gloF R a ρ σ = some ([.d (.bool true)], σ₁)) (h2 : ev gloF R b ρ σ₁ = some ([.d (.bool u)], σ₂)) : ev gloF R (.andE a b) ρ σ = some ([.d (.bool u)], σ₂) := by simp only [ev, h1, h2, oneB, Option.bind_some, if_true]
theorem e_andF (h1 : ev gloF R a ρ σ = some ([.d (.bool false)], σ₁)) : ev gloF R (.andE a b) ρ σ = some ([.d (.bool false)], σ₁) := by
  simp only [ev, h1, oneB, Option.bind_some]; rfl
end
structure Mv (t t' : Tm) : Prop where
  g : goodA t'
  s : sz t' + 1 ≤ 2 * sz t
  d : dp t' + 1 ≤ 2 * dp t
  l : lv t' = lv t
theorem moved_kids {cs : List Nat} {n : Nat} {T : PyData} : ∀ (l : List Tm) (k : Nat), (∀ t ∈ l, ∀ k, k + 2 * sz t ≤ 9000 → ∃ t' k', Mv t t' ∧ k' ≤ k + 2 * sz t ∧ RR n 11 [.feed, .d (toD t)] (sg cs k) = some (.d (toD t'), sg cs k')) → k + 2 * szs l ≤ 9000 →
    ∃ ys k', ys.length = l.length ∧ (∀ y ∈ ys, goodA y) ∧ szs ys + l.length ≤ 2 * szs l ∧ (l ≠ [] → dps ys + 1 ≤ 2 * dps l) ∧ lvs ys = lvs l ∧ k' ≤ k + 2 * szs l ∧
      compGo (fun x σ => (bindT (.one 3) x [.v .feed, .v (.d T), .un, .un]).bind fun ρ' => (oneD (ev gloF (RR n) (Call 11 [L 0, L 3]) ρ' σ)).bind fun p => some ([p.1], p.2)) (l.map toD) (sg cs k) = some (ys.map toD, sg cs k')
  | [], k, _, _ => ⟨[], k, rfl, by simp, Nat.le_refl _, fun h => absurd rfl h, rfl, Nat.le_refl _, rfl⟩
  | t :: l, k, h, hk => by
    rw [szs] at hk
    obtain ⟨t', k1, m, hk1, r⟩ := h t (.head _) k (by (first | lia | omega))
    obtain ⟨ys, k2, e1, e2, e3, e4, e5, e6, e7⟩ := moved_kids (T := T) l k1 (fun x hx => h x (.tail _ hx)) (by (first | lia | omega))
    have hm1 := m.s
    have hm2 := m.d
    have hm3 := m.l
    refine ⟨t' :: ys, k2, by rw [List.length_cons, List.length_cons, e1], ?_, ?_, ?_, ?_, ?_, ?_⟩
    · intro y hy
      rcases List.mem_cons.mp hy with rfl | hy
      · exact m.g
      · exact e2 y hy
    · rw [szs, szs, List.length_cons]; (first | lia | omega)
    · intro _
      rw [dps, dps]
      by_cases hl : l = []
      · subst hl
        have : ys = [] := List.length_eq_zero_iff.mp e1
        subst this
        simp only [dps]; (first | lia | omega)
      · have := e4 hl; (first | lia | omega)
    · rw [lvs, lvs, e5, hm3]
    · rw [szs]; (first | lia | omega)
    · have hcall : ev gloF (RR n) (Call 11 [L 0, L 3]) [.v .feed, .v (.d T), .un, .v (.d (toD t))] (sg cs k) = some ([.d (toD t')], sg cs k1) := e_call (e_cons (e_loc rfl) (e_cons (e_loc rfl) e_nil)) r
      rw [List.map_cons, compGo, show bindT (.one 3) (toD t) [.v .feed, .v (.d T), .un, .un] = some [.v .feed, .v (.d T), .un, .v (.d (toD t))] from rfl, Option.bind_some, hcall]
      show ((compGo _ _ _).bind _) = _
      rw [e7]; rfl
noncomputable def finE : Mine.S := .ret (.bin .add (Tup [.item (L 1) (I 0)]) (.bi .tuple (L 2)))
theorem moved_fin {R : Ft} {o : Str} {l zs : List Tm} {b3 : Bnd} {σ : Sg} (h : zs.length ≤ 1000) : evS gloF R finE [.v .feed, .v (.d (toD (.node o l))), .v (.d (.list (zs.map toD))), b3] σ = some (.ret (.d (toD (.node o zs))) σ) := by
  refine s_ret (e_bin (σ₁ := σ) (σ₂ := σ) (e_tup (e_cons (e_item (σ₁ := σ) (σ₂ := σ) (e_loc rfl) e_lit intOk0 (item0 _)) e_nil) rfl) (e_bi (e_loc rfl) (show mkT _ = _ from mkT_ok (by rw [List.length_map]; (first | lia | omega)))) ?_)
  rw [toD, toDs_eq]
  exact mkT_ok (by rw [List.length_append, List.length_map]; simp only [List.length_cons, List.length_nil, op]; (first | lia | omega))
theorem item_k {zs : List Tm} {k : Nat} (h : k < zs.length) : itemD (.list (zs.map toD)) (k : Int) = some (toD zs[k]) := by
  show (idx (zs.map toD).length (k : Int)).bind _ = _
  unfold idx
  rw [List.length_map, if_pos (by (first | lia | omega)), if_pos (by (first | lia | omega)), Option.bind_some]
  simp [h]
theorem len_list {zs : List Tm} (h : zs.length ≤ 1000) : biD .len (.list (zs.map toD)) = some (.int (zs.length : Int)) := by
  show mkI (((zs.map toD).length : Nat) : Int) = _
  rw [List.length_map]
  exact mkI_nat (by (first | lia | omega))
noncomputable def elseS : Mine.S := .ifS (.andE (.cmp .gt (.bi .len (.item (L 2) (I 0))) (I 2)) (.cmp .eq (.item (.item (L 2) (I 0)) (I 0)) (.item (L 1) (I 0)))) (.asg 2 (.bin .add (.bi .list (.slc .from1 (.item (L 2) (I 0)))) (.slc .from1 (L 2))) .nop) .nop .nop
structure Zs (ys zs : List Tm) : Prop where
  ne : zs ≠ []
  g : ∀ z ∈ zs, goodA z
  s : szs zs ≤ szs ys + 1
  d : dps zs ≤ dps ys + 1
  l : lvs zs = lvs ys
theorem else_run {R : Ft} {o : Str} {l : List Tm} (ho : o ∈ al) {a : Tm} {r : List Tm} {b3 : Bnd} {σ : Sg} (hb : ∀ x ∈ a :: r, goodA x) (hs : szs (a :: r) ≤ 800) (hd : dps (a :: r) ≤ 200) :
    ∃ zs, Zs (a :: r) zs ∧ evS gloF R elseS [.v .feed, .v (.d (toD (.node o l))), .v (.d (.list ((a :: r).map toD))), b3] σ = some (.next [.v .feed, .v (.d (toD (.node o l))), .v (.d (.list (zs.map toD))), b3] σ) := by
  have ga := hb a (.head _)
  rw [szs] at hs
  have hkl : a.ks.length ≤ 800 := by cases a with | node p q => rw [sz] at hs; have := len_szs q; show q.length ≤ _; (first | lia | omega)
  have hrl : r.length ≤ 800 := by have := len_szs r; (first | lia | omega)
  have hlen : biD .len (toD a) = some (.int ((a.ks.length + 1 : Nat) : Int)) := by
    cases a with | node p q =>
    rw [toD, toDs_eq]
    show mkI (((PyData.str p :: q.map toD).length : Nat) : Int) = _
    rw [List.length_cons, List.length_map]
    exact mkI_nat (by have : q.length ≤ 800 := hkl; (first | lia | omega))
  have it0 : ev gloF R (.item (L 2) (I 0)) [.v .feed, .v (.d (toD (.node o l))), .v (.d (.list ((a :: r).map toD))), b3] σ = some ([.d (toD a)], σ) := e_item (σ₁ := σ) (σ₂ := σ) (e_loc rfl) e_lit intOk0 (item_k (zs := a :: r) (k := 0) (by simp))
  have hc : ev gloF R (.andE (.cmp .gt (.bi .len (.item (L 2) (I 0))) (I 2)) (.cmp .eq (.item (.item (L 2) (I 0)) (I 0)) (.item (L 1) (I 0)))) [.v .feed, .v (.d (toD (.node o l))), .v (.d (.list ((a :: r).map toD))), b3] σ = some ([.d (.bool (decide ((2 : Int) < ((a.ks.length + 1 : Nat) : Int)) && decide (a.op = o)))], σ) :=
    e_and (e_cmp (σ₁ := σ) (σ₂ := σ) (e_bi it0 hlen) e_lit rfl) fun _ => e_cmp (σ₁ := σ) (σ₂ := σ) (e_item (σ₁ := σ) (σ₂ := σ) it0 e_lit intOk0 (item0 a)) (e_item (σ₁ := σ) (σ₂ := σ) (e_loc rfl) e_lit intOk0 (item0 _)) (eq_str ga.op ho)
  by_cases h : (decide ((2 : Int) < ((a.ks.length + 1 : Nat) : Int)) && decide (a.op = o)) = true
  · simp only [Bool.and_eq_true, decide_eq_true_eq] at h
    have hne : a.ks ≠ [] := by intro e; rw [e] at h; simp at h
    refine ⟨a.ks ++ r, ⟨by simp [hne], fun z hz => ?_, ?_, ?_, ?_⟩, ?_⟩
    · rcases List.mem_append.mp hz with hz | hz
      · exact goodA_ks ga hz
      · exact hb z (.tail _ hz)
    · cases a with | node p q => rw [szs_append, szs, sz]; show szs q + _ ≤ _; (first | lia | omega)
    · cases a with | node p q => rw [dps_append, dps, dp]; show max (dps q) _ ≤ _; (first | lia | omega)
    · cases a with | node p q => rw [lvs_append, lvs, lv_node (show q ≠ [] from hne)]; rfl
    · have hsl : slcD .from1 (toD a) = some (.tuple (a.ks.map toD)) := by
        cases a with | node p q =>
        rw [toD, toDs_eq]
        show (if 1 ≤ (PyData.str p :: q.map toD).length ∧ (PyData.str p :: q.map toD).length ≤ lim then _ else _) = _
        rw [if_pos ⟨by simp, by rw [List.length_cons, List.length_map]; have : q.length ≤ 800 := hkl; unfold lim; (first | lia | omega)⟩]
        rfl
      have hsl2 : slcD .from1 (.list ((a :: r).map toD)) = some (.list (r.map toD)) := by
        show (if ((a :: r).map toD).length ≤ lim then _ else _) = _
        rw [if_pos (by rw [List.length_map, List.length_cons]; unfold lim; (first | lia | omega))]
        rfl
      rw [List.map_append]
      exact s_ifTN (σ₁ := σ) (σ₂ := σ) (e_of hc (by rw [decide_eq_true h.1, decide_eq_true h.2]; rfl)) (s_asg (σ₁ := σ) (e_bin (σ₁ := σ) (σ₂ := σ) (x := .list (a.ks.map toD)) (e_bi (e_slc it0 hsl) (show mkL _ = _ from mkL_ok (by rw [List.length_map]; (first | lia | omega)))) (e_slc (e_loc rfl) hsl2) (show mkL _ = _ from mkL_ok (by rw [List.length_append, List.length_map, List.length_map]; (first | lia | omega)))) rfl) rfl
  · have h' : (decide ((2 : Int) < ((a.ks.length + 1 : Nat) : Int)) && decide (a.op = o)) = false := by simpa using h
    exact ⟨a :: r, ⟨by simp, hb, by (first | lia | omega), by (first | lia | omega), rfl⟩, s_ifFS (σ₁ := σ) (σ₂ := σ) (e_of hc (by rw [h'])) rfl rfl⟩
theorem three_of {a : Tm} {r : List Tm} (h : ((a :: r).length : Int) = 3) : ∃ x y, r = [x, y] := by
  have h' : r.length = 2 := by simp only [List.length_cons] at h; (first | lia | omega)
  match r, h' with
  | [x, y], _ => exact ⟨x, y, rfl⟩
noncomputable def regS : Mine.S := .asg 2 (Lst [.item (L 2) (I 0), Tup [.item (L 1) (I 0), .item (L 2) (I 1), .item (L 2) (I 2)]]) .nop
noncomputable def grpS : Mine.S := .ifS (.andE (.cmp .eq (.bi .len (L 2)) (I 3)) (.cmp .eq (Call 9 [L 0, I 2]) (I 0))) regS elseS finE
theorem grp_run {cs : List Nat} (hcs : Cells cs) {n : Nat} {o : Str} {l : List Tm} (ho : o ∈ al) {a : Tm} {r : List Tm} {b3 : Bnd} {k : Nat} (hk : k ≤ 9990) (hb : ∀ x ∈ a :: r, goodA x) (hs : szs (a :: r) ≤ 800) (hd : dps (a :: r) ≤ 200) :
    ∃ zs k', Zs (a :: r) zs ∧ k' ≤ k + 1 ∧ evS gloF (RR (n + 1)) grpS [.v .feed, .v (.d (toD (.node o l))), .v (.d (.list ((a :: r).map toD))), b3] (sg cs k) = some (.ret (.d (toD (.node o zs))) (sg cs k')) := by
  have hll : (a :: r).length ≤ 800 := Nat.le_trans (len_szs _) hs
  have hzl : ∀ zs : List Tm, Zs (a :: r) zs → zs.length ≤ 1000 := fun zs z => by have := len_szs zs; have := z.s; (first | lia | omega)
  have hlc : ev gloF (RR (n + 1)) (.cmp .eq (.bi .len (L 2)) (I 3)) [.v .feed, .v (.d (toD (.node o l))), .v (.d (.list ((a :: r).map toD))), b3] (sg cs k) = some ([.d (.bool (decide (((a :: r).length : Int) = 3)))], sg cs k) := e_cmp (σ₁ := sg cs k) (σ₂ := sg cs k) (e_bi (e_loc rfl) (len_list (by (first | lia | omega)))) e_lit (eq_int _ _)
  by_cases h3 : ((a :: r).length : Int) = 3
  · obtain ⟨v, hv, hr⟩ := next_run hcs (k := k) (wide := 2) (by (first | lia | omega)) (by (first | lia | omega)) (by (first | lia | omega)) n
    have hnx : ev gloF (RR (n + 1)) (.cmp .eq (Call 9 [L 0, I 2]) (I 0)) [.v .feed, .v (.d (toD (.node o l))), .v (.d (.list ((a :: r).map toD))), b3] (sg cs k) = some ([.d (.bool (decide ((v : Int) = 0)))], sg cs (k + 1)) := e_cmp (σ₁ := sg cs (k + 1)) (σ₂ := sg cs (k + 1)) (e_call (e_cons (e_loc rfl) (e_cons e_lit e_nil)) hr) e_lit (eq_int _ _)
    have hcd := e_andT (e_of hlc (by rw [decide_eq_true h3])) hnx
    by_cases hv0 : (v : Int) = 0
    · rw [decide_eq_true hv0] at hcd
      obtain ⟨x, y, rfl⟩ := three_of h3
      · skip
        have i0 : ev gloF (RR (n + 1)) (.item (L 2) (I 0)) [.v .feed, .v (.d (toD (.node o l))), .v (.d (.list ([a, x, y].map toD))), b3] (sg cs (k + 1)) = some ([.d (toD a)], sg cs (k + 1)) := e_item (σ₁ := sg cs (k + 1)) (σ₂ := sg cs (k + 1)) (e_loc rfl) e_lit intOk0 (item_k (zs := [a, x, y]) (k := 0) (by simp))
        have i1 : ev gloF (RR (n + 1)) (.item (L 2) (I 1)) [.v .feed, .v (.d (toD (.node o l))), .v (.d (.list ([a, x, y].map toD))), b3] (sg cs (k + 1)) = some ([.d (toD x)], sg cs (k + 1)) := e_item (σ₁ := sg cs (k + 1)) (σ₂ := sg cs (k + 1)) (e_loc rfl) e_lit (intOk_nat (n := 1) (by decide)) (item_k (zs := [a, x, y]) (k := 1) (by simp))
        have i2 : ev gloF (RR (n + 1)) (.item (L 2) (I 2)) [.v .feed, .v (.d (toD (.node o l))), .v (.d (.list ([a, x, y].map toD))), b3] (sg cs (k + 1)) = some ([.d (toD y)], sg cs (k + 1)) := e_item (σ₁ := sg cs (k + 1)) (σ₂ := sg cs (k + 1)) (e_loc rfl) e_lit (intOk_nat (n := 2) (by decide)) (item_k (zs := [a, x, y]) (k := 2) (by simp))
        have z : Zs [a, x, y] [a, .node o [x, y]] := by
          refine ⟨by simp, fun w hw => ?_, ?_, ?_, ?_⟩
          · simp only [List.mem_cons, List.not_mem_nil, or_false] at hw
            rcases hw with rfl | rfl
            · exact hb _ (by simp)
            · refine goodA_node ho fun q hq => ?_
              simp only [List.mem_cons, List.not_mem_nil, or_false] at hq
              rcases hq with rfl | rfl
              · exact hb _ (by simp)
              · exact hb _ (by simp)
          · simp only [szs, sz]; (first | lia | omega)
          · simp only [dps, dp]; (first | lia | omega)
          · simp only [lvs, lv_node (o := o) (l := [x, y]) (by simp)]; (first | lia | omega)
        refine ⟨_, k + 1, z, Nat.le_refl _, s_ifTN (σ₁ := sg cs (k + 1)) (σ₂ := sg cs (k + 1)) hcd (s_asg (σ₁ := sg cs (k + 1)) (v := .d (.list ([a, .node o [x, y]].map toD))) (e_lst (vs := [.d (toD a), .d (toD (.node o [x, y]))]) (e_cons i0 (e_cons (e_tup (vs := [.d (.str o), .d (toD x), .d (toD y)]) (xs := [.str o, toD x, toD y]) (e_cons (e_item (σ₁ := sg cs (k + 1)) (σ₂ := sg cs (k + 1)) (e_loc rfl) e_lit intOk0 (item0 _)) (e_cons i1 (e_cons i2 e_nil))) rfl) e_nil)) rfl) rfl) (moved_fin (hzl _ z))⟩
    · rw [decide_eq_false hv0] at hcd
      obtain ⟨zs, z, hz⟩ := else_run (R := RR (n + 1)) (l := l) (b3 := b3) (σ := sg cs (k + 1)) ho hb hs hd
      exact ⟨zs, k + 1, z, Nat.le_refl _, s_ifFS (σ₁ := sg cs (k + 1)) (σ₂ := sg cs (k + 1)) hcd hz (moved_fin (hzl _ z))⟩
  · have hcd := e_andF (b := .cmp .eq (Call 9 [L 0, I 2]) (I 0)) (e_of hlc (by rw [decide_eq_false h3]))
    obtain ⟨zs, z, hz⟩ := else_run (R := RR (n + 1)) (l := l) (b3 := b3) (σ := sg cs k) ho hb hs hd
    exact ⟨zs, k, z, by (first | lia | omega), s_ifFS (σ₁ := sg cs k) (σ₂ := sg cs k) hcd hz (moved_fin (hzl _ z))⟩
end Mine

end
noncomputable section
namespace Mine
open PySem
open Tm

theorem ok_sp : okD (.tuple [.str (Str.ofString "s"), .str (Str.ofString "p")]) = true := by decide +kernel
theorem cmp_notIn {a : PyData} {xs : List PyData} (ha : okD a = true) (hb : okD (.tuple xs) = true) : cmpD .notIn a (.tuple xs) = some (!(xs.any fun y => PyData.eqv y a)) := by
  show (if (okD a && okD (.tuple xs)) = true then some _ else none) = _
  rw [ha, hb, if_pos (show (true && true) = true from rfl)]
noncomputable def tailS : Mine.S := .ifS (.cmp .eq (Call 9 [L 0, I 2]) (I 0)) (.asg 2 (.bin .add (.slc .from1 (L 2)) (.slc (.upto 1) (L 2))) .nop) .nop grpS
theorem tail_run {cs : List Nat} (hcs : Cells cs) {n : Nat} {o : Str} {l : List Tm} (ho : o ∈ al) {ys : List Tm} (h2 : 2 ≤ ys.length) {b3 : Bnd} {k : Nat} (hk : k ≤ 9980) (hb : ∀ x ∈ ys, goodA x) (hs : szs ys ≤ 800) (hd : dps ys ≤ 200) :
    ∃ zs k', Zs ys zs ∧ k' ≤ k + 2 ∧ evS gloF (RR (n + 1)) tailS [.v .feed, .v (.d (toD (.node o l))), .v (.d (.list (ys.map toD))), b3] (sg cs k) = some (.ret (.d (toD (.node o zs))) (sg cs k')) := by
  obtain ⟨v, hv, hr⟩ := next_run hcs (k := k) (wide := 2) (by (first | lia | omega)) (by (first | lia | omega)) (by (first | lia | omega)) n
  have hl := len_szs ys
  have hnx : ev gloF (RR (n + 1)) (.cmp .eq (Call 9 [L 0, I 2]) (I 0)) [.v .feed, .v (.d (toD (.node o l))), .v (.d (.list (ys.map toD))), b3] (sg cs k) = some ([.d (.bool (decide ((v : Int) = 0)))], sg cs (k + 1)) := e_cmp (σ₁ := sg cs (k + 1)) (σ₂ := sg cs (k + 1)) (e_call (e_cons (e_loc rfl) (e_cons e_lit e_nil)) hr) e_lit (eq_int _ _)
  by_cases hv0 : (v : Int) = 0
  · rw [decide_eq_true hv0] at hnx
    have hp : (ys.drop 1 ++ ys.take 1).Perm ys := List.perm_append_comm.trans (List.Perm.of_eq (List.take_append_drop 1 ys))
    obtain ⟨a, r, e⟩ : ∃ a r, ys.drop 1 ++ ys.take 1 = a :: r := by
      cases q : ys.drop 1 ++ ys.take 1 with
      | nil => have := hp.length_eq; rw [q] at this; simp at this; (first | lia | omega)
      | cons a r => exact ⟨a, r, rfl⟩
    rw [e] at hp
    obtain ⟨zs, k', z, hk', hz⟩ := grp_run hcs (n := n) (l := l) (b3 := b3) (k := k + 1) ho (by (first | lia | omega)) (a := a) (r := r) (fun x hx => hb x (hp.mem_iff.mp hx)) (by rw [szs_perm hp]; exact hs) (by rw [dps_perm hp]; exact hd)
    refine ⟨zs, k', ⟨z.ne, z.g, by rw [← szs_perm hp]; exact z.s, by rw [← dps_perm hp]; exact z.d, by rw [← lvs_perm hp]; exact z.l⟩, by (first | lia | omega), ?_⟩
    have h1 : slcD .from1 (.list (ys.map toD)) = some (.list ((ys.drop 1).map toD)) := by
      show (if (ys.map toD).length ≤ lim then some (PyData.list ((ys.map toD).drop 1)) else none) = _
      rw [if_pos (by rw [List.length_map]; unfold lim; (first | lia | omega)), List.map_drop]
    have h2 : slcD (.upto 1) (.list (ys.map toD)) = some (.list ((ys.take 1).map toD)) := by
      show (if (ys.map toD).length ≤ lim then some (PyData.list ((ys.map toD).take 1)) else none) = _
      rw [if_pos (by rw [List.length_map]; unfold lim; (first | lia | omega)), List.map_take]
    have hadd : binD .add (.list ((ys.drop 1).map toD)) (.list ((ys.take 1).map toD)) = some (.list ((a :: r).map toD)) := by
      rw [← e, List.map_append]
      exact mkL_ok (by rw [← List.map_append, List.length_map, e, hp.length_eq]; (first | lia | omega))
    exact s_ifTN (σ₁ := sg cs (k + 1)) (σ₂ := sg cs (k + 1)) hnx (s_asg (σ₁ := sg cs (k + 1)) (e_bin (σ₁ := sg cs (k + 1)) (σ₂ := sg cs (k + 1)) (e_slc (e_loc rfl) h1) (e_slc (e_loc rfl) h2) hadd) rfl) hz
  · rw [decide_eq_false hv0] at hnx
    cases ys with
    | nil => simp at h2
    | cons a r =>
      obtain ⟨zs, k', z, hk', hz⟩ := grp_run hcs (n := n) (l := l) (b3 := b3) (k := k + 1) ho (by (first | lia | omega)) hb hs hd
      exact ⟨zs, k', z, by (first | lia | omega), s_ifFN (σ₁ := sg cs (k + 1)) hnx hz⟩
theorem moved_run {cs : List Nat} (hcs : Cells cs) (t : Tm) : Bd t → ∀ n, sz t + 1 ≤ n → ∀ k, k + 2 * sz t ≤ 9000 → ∃ t' k', Mv t t' ∧ k' ≤ k + 2 * sz t ∧ RR n 11 [.feed, .d (toD t)] (sg cs k) = some (.d (toD t'), sg cs k') := by
  induction t using tmInd with
  | _ o l ih =>
    intro b n hn k hk
    have hb := b.s
    have hbd := b.d
    rw [sz] at hn hk hb
    rw [dp] at hbd
    obtain ⟨n, rfl⟩ : ∃ m, n = m + 1 := ⟨n - 1, by (first | lia | omega)⟩
    obtain ⟨n, rfl⟩ : ∃ m, n = m + 1 := ⟨n - 1, by (first | lia | omega)⟩
    have hlen := b.len
    obtain ⟨ys, k1, e1, e2, e3, e4, e5, e6, e7⟩ := moved_kids (cs := cs) (n := n + 1) (T := toD (.node o l)) l k (fun t ht k hk => ih t ht (b.kid ht) (n + 1) (by have := szs_mem ht; (first | lia | omega)) k hk) (by (first | lia | omega))
    have hys : ys.length ≤ 400 := by (first | lia | omega)
    have kids : ev gloF (RR (n + 1)) (.comp (Call 11 [L 0, L 3]) (.one 3) (.slc .from1 (L 1)) yes) [.v .feed, .v (.d (toD (.node o l))), .un, .un] (sg cs k) = some ([.d (.list (ys.map toD))], sg cs k1) :=
      e_compS (σ₁ := sg cs k) (eL_tup (e_slc (e_loc rfl) (from1 b)) (by rw [List.length_map]; show l.length ≤ _; (first | lia | omega))) e7 (by rw [List.length_map]; (first | lia | omega))
    have hni : ∃ u, cmpD .notIn (.str o) (.tuple [.str (Str.ofString "s"), .str (Str.ofString "p")]) = some u := by
      exact ⟨_, cmp_notIn (ok_str b.g.op) ok_sp⟩
    obtain ⟨u, hu⟩ := hni
    have hc : ev gloF (RR (n + 1)) (.orE (.cmp .notIn (.item (L 1) (I 0)) (Tup [Sx "s", Sx "p"])) (.cmp .lt (.bi .len (L 2)) (I 2))) [.v .feed, .v (.d (toD (.node o l))), .v (.d (.list (ys.map toD))), .un] (sg cs k1) = some ([.d (.bool (u || decide ((ys.length : Int) < 2)))], sg cs k1) :=
      e_or (e_cmp (σ₁ := sg cs k1) (σ₂ := sg cs k1) (e_item (σ₁ := sg cs k1) (σ₂ := sg cs k1) (e_loc rfl) e_lit intOk0 (item0 _)) (e_tup (e_cons e_lit (e_cons e_lit e_nil)) rfl) hu) fun _ => e_cmp (σ₁ := sg cs k1) (σ₂ := sg cs k1) (e_bi (e_loc rfl) (len_list (by (first | lia | omega)))) e_lit rfl
    by_cases ht : (u || decide ((ys.length : Int) < 2)) = true
    · refine ⟨.node o ys, k1, ⟨goodA_node b.g.op e2, ?_, ?_, ?_⟩, by rw [sz]; (first | lia | omega), run_of rfl rfl (s_asg (σ₁ := sg cs k1) kids (s_ifTR (σ₁ := sg cs k1) (e_of hc (by rw [ht])) (moved_fin (by (first | lia | omega)))))⟩
      · rw [sz, sz]; (first | lia | omega)
      · rw [dp, dp]
        by_cases hl : l = []
        · subst hl
          have : ys = [] := List.length_eq_zero_iff.mp e1
          subst this
          simp only [dps]; (first | lia | omega)
        · have := e4 hl; (first | lia | omega)
      · by_cases hl : l = []
        · subst hl
          have : ys = [] := List.length_eq_zero_iff.mp e1
          subst this
          rfl
        · have : ys ≠ [] := by rintro rfl; exact hl (List.length_eq_zero_iff.mp e1.symm)
          rw [lv_node this, lv_node hl, e5]
    · have ht' : (u || decide ((ys.length : Int) < 2)) = false := by simpa using ht
      have h2 : 2 ≤ ys.length := by
        simp only [Bool.or_eq_false_iff, decide_eq_false_iff_not] at ht'
        (first | lia | omega)
      have hl : l ≠ [] := by rintro rfl; simp only [List.length_nil] at e1; (first | lia | omega)
      have e4' := e4 hl
      obtain ⟨zs, k2, z, hk2, hz⟩ := tail_run hcs (n := n) (l := l) (b3 := .un) (k := k1) b.g.op h2 (by (first | lia | omega)) e2 (by (first | lia | omega)) (by (first | lia | omega))
      have zs1 := z.s
      have zs2 := z.d
      have zs3 := z.l
      refine ⟨.node o zs, k2, ⟨goodA_node b.g.op z.g, ?_, ?_, ?_⟩, by rw [sz]; (first | lia | omega), run_of rfl rfl (s_asg (σ₁ := sg cs k1) kids (s_ifFN (σ₁ := sg cs k1) (e_of hc (by rw [ht'])) hz))⟩
      · rw [sz, sz]; (first | lia | omega)
      · rw [dp, dp]; (first | lia | omega)
      · rw [lv_node z.ne, lv_node hl, zs3, e5]
/-! the script -/
noncomputable def cellsOf (ns : List Int) : List Nat := (ns.take 60).map fun i => (i % 5040).toNat
theorem cells_ok (ns : List Int) : Cells (cellsOf ns) := by
  refine ⟨by unfold cellsOf; rw [List.length_map, List.length_take]; (first | lia | omega), fun c hc => ?_⟩
  obtain ⟨i, _, rfl⟩ := List.mem_map.mp hc
  have h1 := Int.emod_lt_of_pos i (show (0 : Int) < 5040 by decide)
  have h2 := Int.emod_nonneg i (show (5040 : Int) ≠ 0 by decide)
  (first | lia | omega)
theorem cell_run (ns : List Int) (h : ns.length ≤ 63) (n : Nat) : ev gloF (RR n) cellE (rho0 ns) [] = some ([.d (.list ((cellsOf ns).map cellD))], []) := by
  have hs : slcD (.upto 60) (.list (ns.map .int)) = some (.list ((ns.take 60).map .int)) := by
    show (if (ns.map PyData.int).length ≤ lim then some (PyData.list ((ns.map PyData.int).take 60)) else none) = _
    rw [if_pos (by rw [List.length_map]; unfold lim; (first | lia | omega)), List.map_take]
  have e : (cellsOf ns).map cellD = (ns.take 60).map fun i => PyData.int (i % 5040) := by
    unfold cellsOf
    rw [List.map_map]
    refine List.map_congr_left fun i _ => ?_
    have h2 := Int.emod_nonneg i (show (5040 : Int) ≠ 0 by decide)
    show PyData.int (((i % 5040).toNat : Nat) : Int) = _
    rw [Int.toNat_of_nonneg h2]
  rw [e]
  refine e_comp (l := ns.take 60) (m := .int) (g := fun i => PyData.int (i % 5040)) (eL_list (e_slc (e_loc rfl) hs) (by rw [List.length_map, List.length_take]; (first | lia | omega))) (fun i _ => ⟨_, rfl, e_bin (e_loc rfl) e_lit ?_⟩) (by rw [List.length_take]; (first | lia | omega))
  show (if decide ((0 : Int) < 5040) = true then mkI (i % 5040) else none) = _
  rw [if_pos (by decide)]
  have h1 := Int.emod_lt_of_pos i (show (0 : Int) < 5040 by decide)
  have h2 := Int.emod_nonneg i (show (5040 : Int) ≠ 0 by decide)
  have h3 : i % 5040 = (((i % 5040).toNat : Nat) : Int) := (Int.toNat_of_nonneg h2).symm
  rw [h3]
  exact mkI_nat (by (first | lia | omega))
end Mine

end
noncomputable section
namespace Mine
open PySem
open Tm

theorem ok_bool {b : Bool} : okD (.bool b) = true := ok_of rfl (by simp [PyData.depth])
theorem eqv_bool (b : Bool) : PyData.eqv (.bool b) (.bool b) = true := by cases b <;> decide +kernel
theorem ne_bool {a b : Bool} (h : a = b) : cmpD .ne (.bool a) (.bool b) = some false := by
  subst h
  rw [cmp_ne ok_bool ok_bool, eqv_bool]; rfl
theorem ok_counted {ops : List Str} {t : Tm} (b : Bd t) : okD (.str (counted ops t)) = true := ok_of (lay_counted t b.g) (by simp [PyData.depth])
noncomputable def ltest : E := .andE (.cmp .isIn (.item (L 11) (I 0)) (L 3)) (.andE (.cmp .eq (.bi .len (L 11)) (I 3)) (.andE (.cmp .eq (.item (.item (L 11) (I 1)) (I 0)) (.item (L 11) (I 0))) (.cmp .gt (.bi .len (.item (L 11) (I 1))) (I 2))))
noncomputable def lawB : S := .asg 8 (.cmp .eq (Call 15 [L 3, L 5]) (Call 15 [L 3, L 7])) <| .asg 9 (Meth 6 (L 4) [L 5]) <| .ifS (.orE (.cmp .ne (Meth 7 (L 4) [L 5, L 7]) (L 8)) (.cmp .ne (.cmp .eq (L 9) (Meth 6 (L 4) [L 7])) (L 8))) (.ret (.lit (.bool false))) .nop <|
  .ifS (.orE (.cmp .ne (Call 15 [L 3, L 9]) (Call 15 [L 3, L 5])) (.orE (.cmp .ne (Meth 6 (L 4) [L 9]) (L 9)) (.notE (Call 18 [L 3, L 9])))) (.ret (.lit (.bool false))) .nop <|
  .ifS (.cmp .ne (.bi .list (Meth 4 (L 4) [Sx "s", L 5])) (.ite (.cmp .eq (.item (L 5) (I 0)) (Sx "s")) (Call 13 [L 3, L 5]) (Lst [L 5]))) (.ret (.lit (.bool false))) .nop <|
  .asg 10 (Meth 8 (L 4) [L 5]) <|
  .ifS (.orE (.cmp .ne (Call 15 [L 3, L 10]) (Call 15 [L 3, L 5])) (.cmp .ne (.comp (I 1) (.one 11) (Call 16 [L 10]) (.andE (.cmp .isIn (.item (L 11) (I 0)) (L 3)) (.cmp .gt (.bi .len (L 11)) (I 3)))) (Lst []))) (.ret (.lit (.bool false))) .nop <|
  .ret (.cmp .eq (.comp (I 1) (.one 11) (Call 16 [Meth 8 (L 4) [L 9]]) ltest) (Lst []))
theorem item1 {p x y : Tm} (h : p.ks = [x, y]) : itemD (toD p) 1 = some (toD x) := by
  cases p with | node o l =>
  have h : l = [x, y] := h
  subst h
  rfl
noncomputable def lq (ops : List Str) (p : Tm) : Bool := ops.contains p.op && (decide (((p.ks.length + 1 : Nat) : Int) = 3) && (match p.ks with
  | [x, _] => decide (x.op = p.op) && decide ((2 : Int) < ((x.ks.length + 1 : Nat) : Int))
  | _ => false))
theorem two_of {p : Tm} (h : ((p.ks.length + 1 : Nat) : Int) = 3) : ∃ x y, p.ks = [x, y] := by
  have h' : p.ks.length = 2 := by (first | lia | omega)
  match p.ks, h' with
  | [x, y], _ => exact ⟨x, y, rfl⟩
theorem ltest_run {R : Ft} {ops : List Str} (ho : OpsOk ops) {p : Tm} (b : Bd p) {ρ : List Bnd} {σ : Sg} (h3 : ρ[3]? = some (.v (.d (opsD ops)))) (h11 : ρ[11]? = some (.v (.d (toD p)))) : ev gloF R ltest ρ σ = some ([.d (.bool (lq ops p))], σ) := by
  unfold lq
  refine e_and (e_cmp (σ₁ := σ) (σ₂ := σ) (e_item (σ₁ := σ) (σ₂ := σ) (e_loc h11) e_lit intOk0 (item0 p)) (e_loc h3) (in_ops ho b.g.op)) fun _ => ?_
  refine e_and (e_cmp (σ₁ := σ) (σ₂ := σ) (e_bi (e_loc h11) (len_tm b)) e_lit (eq_int _ _)) fun h => ?_
  obtain ⟨x, y, e⟩ := two_of (of_decide_eq_true h)
  rw [e]
  have bx : Bd x := by
    cases p with | node o l =>
    have e : l = [x, y] := e
    exact b.kid (by rw [e]; simp)
  have i1 : ev gloF R (.item (L 11) (I 1)) ρ σ = some ([.d (toD x)], σ) := e_item (σ₁ := σ) (σ₂ := σ) (e_loc h11) e_lit (intOk_nat (n := 1) (by decide)) (item1 e)
  exact e_and (e_cmp (σ₁ := σ) (σ₂ := σ) (e_item (σ₁ := σ) (σ₂ := σ) i1 e_lit intOk0 (item0 x)) (e_item (σ₁ := σ) (σ₂ := σ) (e_loc h11) e_lit intOk0 (item0 p)) (eq_str bx.g.op b.g.op)) fun _ => e_cmp (σ₁ := σ) (σ₂ := σ) (e_bi i1 (len_tm bx)) e_lit rfl
theorem lawB_run {ops : List Str} (ho : OpsOk ops) {t u : Tm} (bt : Bd t) (bu : Bd u) (ht : sz t ≤ 40) (hd : dp t + lv t ≤ 40) (hu : sz u ≤ 160) {X Wy : V} {σ : Sg} : evS gloF (RR 400) lawB [.v X, .un, .v .feed, .v (.d (opsD ops)), .v (.me (opsD ops)), .v (.d (toD t)), .v Wy, .v (.d (toD u)), .un, .un, .un, .un] σ = some (.ret (.d (.bool true)) σ) := by
  have bn := bt.normal ops
  have bnu := bu.normal ops
  have hb := normal_bounds ops t
  have bto := bt.nested ops (by (first | lia | omega)) (by (first | lia | omega))
  have hnb := nested_bounds ops t
  have bnl := bn.nested ops (by (first | lia | omega)) (by (first | lia | omega))
  have hnl := nested_bounds ops (normal ops t)
  have hlk : eqT (normal ops t) (normal ops u) = decide (counted ops t = counted ops u) := by
    have := likes ops bt.g.good bu.g.good
    by_cases h : counted ops t = counted ops u
    · rw [decide_eq_true h]; exact (eqT_iff _ _).mpr (this.mpr h)
    · rw [decide_eq_false h]
      cases q : eqT (normal ops t) (normal ops u) with
      | false => rfl
      | true => exact absurd (this.mp ((eqT_iff _ _).mp q)) h
  have hsL : Str.ofString "s" ∈ al := al_mem (by decide +kernel)
  have cnt : ∀ {ρ : List Bnd} {i : Nat} {x : Tm}, ρ[3]? = some (.v (.d (opsD ops))) → ρ[i]? = some (.v (.d (toD x))) → Bd x → 2 * sz x + 1 ≤ 400 → ev gloF (RR 400) (Call 15 [L 3, L i]) ρ σ = some ([.d (.str (counted ops x))], σ) := fun h3 hi b hs => e_call (σ₁ := σ) (e_cons (e_loc h3) (e_cons (e_loc hi) e_nil)) (counted_run ho _ b 400 σ hs)
  have nrm : ∀ {ρ : List Bnd} {i : Nat} {x : Tm}, ρ[4]? = some (.v (.me (opsD ops))) → ρ[i]? = some (.v (.d (toD x))) → Bd x → sz x + 6 ≤ 400 → ev gloF (RR 400) (Meth 6 (L 4) [L i]) ρ σ = some ([.d (toD (normal ops x))], σ) := fun h3 hi b hs => e_meth (σ₁ := σ) (σ₂ := σ) (e_loc h3) (e_cons (e_loc hi) e_nil) (normal_run ho _ b 400 σ hs)
  refine s_asg (σ₁ := σ) (e_cmp (σ₁ := σ) (σ₂ := σ) (cnt rfl rfl bt (by (first | lia | omega))) (cnt rfl rfl bu (by (first | lia | omega))) (cmp_eq (ok_counted bt) (ok_counted bu))) ?_
  rw [eqv_str]
  refine s_asg (σ₁ := σ) (nrm rfl rfl bt (by (first | lia | omega))) ?_
  refine s_ifFN (σ₁ := σ) (e_of (e_or (t := false) (u := false) (e_cmp (σ₁ := σ) (σ₂ := σ) (e_meth (σ₁ := σ) (σ₂ := σ) (e_loc rfl) (e_cons (e_loc rfl) (e_cons (e_loc rfl) e_nil)) (areLike_run ho bt bu 400 σ (by (first | lia | omega)) (by (first | lia | omega)))) (e_loc rfl) (ne_bool hlk)) fun _ => e_cmp (σ₁ := σ) (σ₂ := σ) (e_cmp (σ₁ := σ) (σ₂ := σ) (e_loc rfl) (nrm rfl rfl bu (by (first | lia | omega))) (eq_tm ho bn bnu)) (e_loc rfl) (ne_bool hlk)) rfl) ?_
  have hcn : cmpD .ne (.str (counted ops (normal ops t))) (.str (counted ops t)) = some false := by
    rw [cmp_ne (ok_counted bn) (ok_counted bt), eqv_str, counted_normal, decide_eq_true rfl]; rfl
  have hid : normal ops (normal ops t) = normal ops t := (likes ops bn.g.good bt.g.good).mpr (counted_normal ops t)
  have hnn : cmpD .ne (toD (normal ops (normal ops t))) (toD (normal ops t)) = some false := by
    rw [hid, cmp_ne bn.ok bn.ok]
    have : PyData.eqv (toD (normal ops t)) (toD (normal ops t)) = true := (eqT_iff _ _).mpr rfl
    rw [this]; rfl
  refine s_ifFN (σ₁ := σ) (e_of (e_or (t := false) (u := false) (e_cmp (σ₁ := σ) (σ₂ := σ) (cnt rfl rfl bn (by (first | lia | omega))) (cnt rfl rfl bt (by (first | lia | omega))) hcn) fun _ => e_or (t := false) (u := false) (e_cmp (σ₁ := σ) (σ₂ := σ) (nrm rfl rfl bn (by (first | lia | omega))) (e_loc rfl) hnn) fun _ => e_not (t := true) (e_call (σ₁ := σ) (e_cons (e_loc rfl) (e_cons (e_loc rfl) e_nil)) (isNormal_run ho bn (normal_ok ops t) 400 σ (by (first | lia | omega))))) rfl) ?_
  have hsl := sel_len ops (Str.ofString "s") bt
  have okk : okD (.list ((sel ops (Str.ofString "s") t).map toD)) = true := by
    refine ok_of ?_ ?_
    · rw [PyData.canLay0]; exact layAll_map fun x hx => lay_toD x (bt.sel ops x hx).g
    · rw [PyData.depth]
      have := depthAll_map (f := toD) (n := 50) (l := sel ops (Str.ofString "s") t) fun x hx => Nat.le_trans (depth_toD x) (bt.sel ops x hx).d
      (first | lia | omega)
  have gkk : gd (.list ((sel ops (Str.ofString "s") t).map toD)) = true := by simp only [gd]; exact gdL_map fun x _ => gd_toD x
  have hkk : cmpD .ne (.list ((sel ops (Str.ofString "s") t).map toD)) (.list ((sel ops (Str.ofString "s") t).map toD)) = some false := by
    rw [cmp_ne okk okk, (eqv_eq _ _ gkk gkk).mpr rfl]; rfl
  have hL : biD .list (.tuple ((sel ops (Str.ofString "s") t).map toD)) = some (.list ((sel ops (Str.ofString "s") t).map toD)) := mkL_ok (by rw [List.length_map]; (first | lia | omega))
  refine s_ifFN (σ₁ := σ) (e_cmp (σ₁ := σ) (σ₂ := σ) (e_bi (σ₁ := σ) (e_meth (σ₁ := σ) (σ₂ := σ) (e_loc rfl) (e_cons e_lit (e_cons (e_loc rfl) e_nil)) (kids_run ho hsL t bt 400 σ (by (first | lia | omega)))) hL) (e_ite (σ₁ := σ) (t := decide (t.op = Str.ofString "s")) (e_cmp (σ₁ := σ) (σ₂ := σ) (e_item (σ₁ := σ) (σ₂ := σ) (e_loc rfl) e_lit intOk0 (item0 t)) e_lit (eq_str bt.g.op hsL)) (fun h => ?_) fun h => ?_) hkk) ?_
  · unfold sel; rw [if_pos (of_decide_eq_true h)]
    exact e_call (σ₁ := σ) (e_cons (e_loc rfl) (e_cons (e_loc rfl) e_nil)) (flat_run ho t bt 400 σ (by (first | lia | omega)))
  · unfold sel; rw [if_neg (of_decide_eq_false h)]
    exact e_lst (e_cons (e_loc rfl) e_nil) rfl
  have nst : ∀ {ρ : List Bnd} {i : Nat} {x : Tm}, ρ[4]? = some (.v (.me (opsD ops))) → ρ[i]? = some (.v (.d (toD x))) → Bd x → sz x + 2 ≤ 400 → ev gloF (RR 400) (Meth 8 (L 4) [L i]) ρ σ = some ([.d (toD (nested ops x))], σ) := fun h3 hi b hs => e_meth (σ₁ := σ) (σ₂ := σ) (e_loc h3) (e_cons (e_loc hi) e_nil) (nested_run ho _ b 400 σ hs)
  refine s_asg (σ₁ := σ) (nst rfl rfl bt (by (first | lia | omega))) ?_
  have hct : cmpD .ne (.str (counted ops (nested ops t))) (.str (counted ops t)) = some false := by
    rw [cmp_ne (ok_counted bto) (ok_counted bt), eqv_str, counted_nested, decide_eq_true rfl]; rfl
  have hnil : cmpD .ne (.list []) (.list []) = some false := by rw [cmp_ne ok_nil ok_nil]; rfl
  have hf1 : ((pre (nested ops t)).filter fun p => ops.contains p.op && decide ((3 : Int) < ((p.ks.length + 1 : Nat) : Int))) = [] := by
    rw [List.filter_eq_nil_iff]
    intro p hp
    simp only [Bool.and_eq_true, decide_eq_true_eq, not_and]
    intro h1 h2
    have := nested_two ops t p hp h1
    (first | lia | omega)
  have hpl := pre_len (nested ops t)
  have hpl2 := pre_len (nested ops (normal ops t))
  refine s_ifFN (σ₁ := σ) (e_of (e_or (t := false) (u := false) (e_cmp (σ₁ := σ) (σ₂ := σ) (cnt rfl rfl bto (by (first | lia | omega))) (cnt rfl rfl bt (by (first | lia | omega))) hct) fun _ => e_cmp (σ₁ := σ) (σ₂ := σ) (x := .list []) ?_ (e_lst e_nil rfl) hnil) rfl) (s_ret ?_)
  · refine e_of (e_compIf (σ₁ := σ) (l := pre (nested ops t)) (m := toD) (g := fun _ => .int 1) (p := fun p => ops.contains p.op && decide ((3 : Int) < ((p.ks.length + 1 : Nat) : Int))) (eL_list (e_call (σ₁ := σ) (e_cons (e_loc rfl) e_nil) (all_run (nested ops t) bto 400 σ (by (first | lia | omega)))) (by rw [List.length_map]; (first | lia | omega))) (fun p hp => ⟨_, rfl, e_and (e_cmp (σ₁ := σ) (σ₂ := σ) (e_item (σ₁ := σ) (σ₂ := σ) (e_loc rfl) e_lit intOk0 (item0 p)) (e_loc rfl) (in_ops ho (bto.pre p hp).g.op)) fun _ => e_cmp (σ₁ := σ) (σ₂ := σ) (e_bi (e_loc rfl) (len_tm (bto.pre p hp))) e_lit rfl, fun _ => e_lit⟩) (by (first | lia | omega))) (by rw [hf1]; rfl)
  · have hf2 : ((pre (nested ops (normal ops t))).filter (lq ops)) = [] := by
      rw [List.filter_eq_nil_iff]
      intro p hp h
      unfold lq at h
      simp only [Bool.and_eq_true, decide_eq_true_eq] at h
      obtain ⟨h1, h2, h3⟩ := h
      obtain ⟨x, y, e⟩ := two_of h2
      rw [e] at h3
      simp only [Bool.and_eq_true, decide_eq_true_eq] at h3
      exact nested_left ops (normal ops t) (normal_ok ops t) p hp h1 (by (first | lia | omega)) x y e h3.1 (by (first | lia | omega))
    have hq : cmpD .eq (.list []) (.list []) = some true := by rw [cmp_eq ok_nil ok_nil]; rfl
    refine e_cmp (σ₁ := σ) (σ₂ := σ) (x := .list []) ?_ (e_lst e_nil rfl) hq
    exact e_of (e_compIf (σ₁ := σ) (l := pre (nested ops (normal ops t))) (m := toD) (g := fun _ => .int 1) (p := lq ops) (eL_list (e_call (σ₁ := σ) (e_cons (nst rfl rfl bn (by (first | lia | omega))) e_nil) (all_run (nested ops (normal ops t)) bnl 400 σ (by (first | lia | omega)))) (by rw [List.length_map]; (first | lia | omega))) (fun p hp => ⟨_, rfl, ltest_run ho (bnl.pre p hp) rfl rfl, fun _ => e_lit⟩) (by (first | lia | omega))) (by rw [hf2]; rfl)
end Mine

end
noncomputable section
namespace Mine
open PySem
open Tm

noncomputable def opsT : PyData := .tuple [.list [.str (Str.ofString "s")], .list [.str (Str.ofString "p")], .list [.str (Str.ofString "s"), .str (Str.ofString "p")], .list []]
theorem ops_item (v : Nat) (h : v < 4) : ∃ ops, OpsOk ops ∧ itemD opsT (v : Int) = some (opsD ops) := by
  have hs : Str.ofString "s" ∈ al := al_mem (by decide +kernel)
  have hp : Str.ofString "p" ∈ al := al_mem (by decide +kernel)
  have hsp : ∀ o ∈ [Str.ofString "s", Str.ofString "p"], o ∈ al := by
    intro o ho
    simp only [List.mem_cons, List.not_mem_nil, or_false] at ho
    rcases ho with e | e
    · rw [e]; exact hs
    · rw [e]; exact hp
  match v, h with
  | 0, _ => exact ⟨[Str.ofString "s"], ⟨by intro o ho; rw [List.mem_singleton.mp ho]; exact hs, by simp⟩, rfl⟩
  | 1, _ => exact ⟨[Str.ofString "p"], ⟨by intro o ho; rw [List.mem_singleton.mp ho]; exact hp, by simp⟩, rfl⟩
  | 2, _ => exact ⟨[Str.ofString "s", Str.ofString "p"], ⟨hsp, by simp⟩, rfl⟩
  | 3, _ => exact ⟨[], ⟨(fun o ho => absurd ho (by simp)), by simp⟩, rfl⟩
noncomputable def uE : E := .ite (.cmp .eq (L 6) (I 2)) (Call 12 [L 5]) (.ite (.cmp .eq (L 6) (I 3)) (Call 10 [L 2, I 2]) (Call 11 [L 2, Call 11 [L 2, L 5]]))
theorem u_run {cs : List Nat} (hc : Cells cs) {t : Tm} (st : Small t 40 4 27) {k way : Nat} (hk : k ≤ 200) {ρ : List Bnd} (h2 : ρ[2]? = some (.v .feed)) (h5 : ρ[5]? = some (.v (.d (toD t)))) (h6 : ρ[6]? = some (.v (.d (.int (way : Int))))) : ∃ u k', Small u 160 16 27 ∧ ev gloF (RR 400) uE ρ (sg cs k) = some ([.d (toD u)], sg cs k') := by
  have bt : Bd t := ⟨st.g, Nat.le_trans st.s (by decide), Nat.le_trans st.d (by decide), Nat.le_trans st.l (by decide)⟩
  have hts := st.s
  have htd := st.d
  have htl := st.l
  have c1 : ev gloF (RR 400) (.cmp .eq (L 6) (I 2)) ρ (sg cs k) = some ([.d (.bool (decide ((way : Int) = 2)))], sg cs k) := e_cmp (σ₁ := sg cs k) (σ₂ := sg cs k) (e_loc h6) e_lit (eq_int _ _)
  have c2 : ev gloF (RR 400) (.cmp .eq (L 6) (I 3)) ρ (sg cs k) = some ([.d (.bool (decide ((way : Int) = 3)))], sg cs k) := e_cmp (σ₁ := sg cs k) (σ₂ := sg cs k) (e_loc h6) e_lit (eq_int _ _)
  by_cases hw2 : (way : Int) = 2
  · obtain ⟨u, g, s, d, l, r⟩ := bent_run t bt 400 (sg cs k) (by (first | lia | omega))
    exact ⟨u, k, ⟨g, by (first | lia | omega), by (first | lia | omega), by (first | lia | omega)⟩, e_ite (σ₁ := sg cs k) (t := true) (e_of c1 (by rw [decide_eq_true hw2])) (fun _ => e_call (σ₁ := sg cs k) (e_cons (e_loc h5) e_nil) r) fun h => by cases h⟩
  · by_cases hw3 : (way : Int) = 3
    · obtain ⟨u, k', s, hk', r⟩ := term_run hc 2 (by decide) k (by have : kD 2 = 17 := rfl; (first | lia | omega)) 400 (by (first | lia | omega))
      have h1 := s.s
      have h2' := s.d
      have h3 := s.l
      have e1 : sD 2 = 13 := rfl
      have e3 : lD 2 = 9 := rfl
      exact ⟨u, k', ⟨s.g, by (first | lia | omega), by (first | lia | omega), by (first | lia | omega)⟩, e_ite (σ₁ := sg cs k) (t := false) (e_of c1 (by rw [decide_eq_false hw2])) (fun h => by cases h) fun _ => e_ite (σ₁ := sg cs k) (t := true) (e_of c2 (by rw [decide_eq_true hw3])) (fun _ => e_call (σ₁ := sg cs k) (e_cons (e_loc h2) (e_cons e_lit e_nil)) r) fun h => by cases h⟩
    · obtain ⟨u1, k1, m1, hk1, r1⟩ := moved_run hc t bt 400 (by (first | lia | omega)) k (by (first | lia | omega))
      have a1 := m1.s
      have a2 := m1.d
      have a3 := m1.l
      have b1 : Bd u1 := ⟨m1.g, by (first | lia | omega), by (first | lia | omega), by (first | lia | omega)⟩
      obtain ⟨u2, k2, m2, hk2, r2⟩ := moved_run hc u1 b1 400 (by (first | lia | omega)) k1 (by (first | lia | omega))
      have c1' := m2.s
      have c2' := m2.d
      have c3' := m2.l
      exact ⟨u2, k2, ⟨m2.g, by (first | lia | omega), by (first | lia | omega), by (first | lia | omega)⟩, e_ite (σ₁ := sg cs k) (t := false) (e_of c1 (by rw [decide_eq_false hw2])) (fun h => by cases h) fun _ => e_ite (σ₁ := sg cs k) (t := false) (e_of c2 (by rw [decide_eq_false hw3])) (fun h => by cases h) fun _ => e_call (σ₁ := sg cs k1) (vs := [.feed, .d (toD u1)]) (e_cons (e_loc h2) (e_cons (e_call (σ₁ := sg cs k) (e_cons (e_loc h2) (e_cons (e_loc h5) e_nil)) r1) e_nil)) r2⟩
theorem runs (ns : List Int) (h : ns.length ≤ 63) : ∃ cs σ', ev gloF (run gloF fnT 400) cellE (rho0 ns) [] = some ([.d (.list cs)], []) ∧ evS gloF (run gloF fnT 400) lawS (rho1 ns) (sig1 cs) = some (.ret (.d (.bool true)) σ') := by
  have hc := cells_ok ns
  generalize hcs : cellsOf ns = cs at hc
  obtain ⟨v1, hv1, r1⟩ := next_run hc (k := 0) (wide := 4) (by (first | lia | omega)) (by (first | lia | omega)) (by (first | lia | omega)) 399
  obtain ⟨ops, ho, hi⟩ := ops_item v1 hv1
  obtain ⟨t, k2, st, hk2, r2⟩ := term_run hc 3 (by decide) 1 (by have : kD 3 = 53 := rfl; (first | lia | omega)) 400 (by (first | lia | omega))
  have e1 : sD 3 = 40 := rfl
  have e2 : lD 3 = 27 := rfl
  have e3 : kD 3 = 53 := rfl
  rw [e1, e2] at st
  obtain ⟨way, hway, r3⟩ := next_run hc (k := k2) (wide := 4) (by (first | lia | omega)) (by (first | lia | omega)) (by (first | lia | omega)) 399
  obtain ⟨u, k4, su, hu⟩ := u_run hc st (k := k2 + 1) (way := way) (by (first | lia | omega)) (ρ := [.v (.d (.list (ns.map .int))), .un, .v .feed, .v (.d (opsD ops)), .v (.me (opsD ops)), .v (.d (toD t)), .v (.d (.int (way : Int))), .un, .un, .un, .un, .un]) rfl rfl rfl
  have bt : Bd t := ⟨st.g, Nat.le_trans st.s (by decide), Nat.le_trans st.d (by decide), Nat.le_trans st.l (by decide)⟩
  have bu : Bd u := ⟨su.g, Nat.le_trans su.s (by decide), Nat.le_trans su.d (by decide), Nat.le_trans su.l (by decide)⟩
  have hd := st.d
  have hl := st.l
  refine ⟨(cellsOf ns).map cellD, sg cs k4, cell_run ns h 400, ?_⟩
  rw [hcs]
  show evS gloF (RR 400) lawS (rho1 ns) (sg cs 0) = _
  exact s_asg (σ₁ := sg cs 1) (e_item (σ₁ := sg cs 0) (σ₂ := sg cs 1) (x := opsT) (e_tup (vs := [.d (.list [.str (Str.ofString "s")]), .d (.list [.str (Str.ofString "p")]), .d (.list [.str (Str.ofString "s"), .str (Str.ofString "p")]), .d (.list [])]) (e_cons (e_lst (e_cons e_lit e_nil) rfl) (e_cons (e_lst (e_cons e_lit e_nil) rfl) (e_cons (e_lst (e_cons e_lit (e_cons e_lit e_nil)) rfl) (e_cons (e_lst e_nil rfl) e_nil)))) rfl) (e_call (σ₁ := sg cs 0) (e_cons (e_loc rfl) (e_cons e_lit e_nil)) r1) (intOk_nat (by (first | lia | omega))) hi)
    (s_asg2 (σ₁ := sg cs 1) (σ₂ := sg cs k2) (e_mk (e_loc rfl)) (e_call (σ₁ := sg cs 1) (e_cons (e_loc rfl) (e_cons e_lit e_nil)) r2)
      (s_asg (σ₁ := sg cs (k2 + 1)) (e_call (σ₁ := sg cs k2) (e_cons (e_loc rfl) (e_cons e_lit e_nil)) r3)
        (s_asg (σ₁ := sg cs k4) hu (lawB_run ho bt bu st.s (by (first | lia | omega)) su.s))))
end Mine

end
noncomputable section
namespace Mine
open PySem PySem.W PyProof.Rows PySem.Calls
theorem room400 (env : Env) : Room (callerA.deeper env) 400 := by
  refine ⟨rfl, ?_, ?_⟩
  · show 1 + claimMargin + 1 + 400 + 5 < recursionLimit
    decide
  · show 4 + 3 + 16 * 400 + 400 < cLine
    decide
section
variable {w : World} {s₀ s₁ : Shared} {h₁ : Heap} {tk : Nat} {mg mb m : Str → Option Value} {name : Str} {a : Addr} {cd : Value} {ax : Addr} {vs : List Value} {ns : List Int} {p : Program} {loose : List Str} {mean : ExcName → Option Value}
theorem good_of {s' : Shared} (hg : s₁.gens = #[]) (h : (∀ b o, s₁.heap.get? b = some o → s'.heap.get? b = some o) ∧ s'.os = s₁.os ∧ s'.gens = s₁.gens) :
    GoodW PySem.Challenge.rw_pq0116_01.row.claim (classAt s₀.heap) (ExcName.means s₀.heap) [ofPy (PyData.list (List.map PyData.int ns))] s₁ (Except.ok (Flow.ret (.bool true))) s' := by
  obtain ⟨h2, h3, h4⟩ := h
  refine ⟨.inl ⟨.bool true, .bool true, [], rfl, fun _ => rfl, .bool true, ?_, fun _ => ⟨List.nodup_nil, by simp⟩⟩, h2, h3, h4.trans hg⟩
  kernel_rfl
theorem join01 {ob : Obj} {env : Env} {body : List Stmt} {sc : Scope} (hb : body = bodyOf (heapK w.params) 203) (hsc : sc = scOf (heapK w.params) 203) (KX : (heapK w.params).In s₁.heap) (T : Top p loose mean mg mb s₁.heap) (hg : s₁.gens = #[]) (F : Fr s₁.heap s₁.heap.objs.size h₁ m) (hm : m (Str.ofString "script") = some (.ref ax)) (hl : s₁.heap.IsList ax vs.toArray) (hI : IntsAre vs ns) (hlen : ¬ (63 : Int) < (ns.length : Int))
    {x : Option Value} (N0 : News s₁.heap s₁.heap.objs.size h₁ [(s₁.heap.objs.size + 1, ob)]) (hdd : ob.data = .cell x) {E : Value → Shared → Prop} :
    wpAny (model PySem.Challenge.rw_pq0116_01.row.prog w) (callerA.deeper env) (execs body (envOfC name sc s₁.heap.objs.size a cd))
      (fun f s' => GoodW PySem.Challenge.rw_pq0116_01.row.claim (classAt s₀.heap) (ExcName.means s₀.heap) [ofPy (PyData.list (List.map PyData.int ns))] s₁ (Except.ok (Flow.ret (match f with | Flow.ret v => v | x => Value.none))) s') E
      { heap := h₁, gens := s₁.gens, drawn := s₁.drawn, toks := tk, os := s₁.os } := by
  obtain ⟨cs, σ', hc, hr⟩ := runs ns (by omega)
  exact wpAny_mono (law_start (n := 400) (cs := cs) (σ' := σ') hb hsc ⟨KX, T.g, T.b, T.nolimit, T.builtins⟩ (room400 env) F hm hl hI ⟨ob, x, N0.get (by simp), hdd⟩ hc hr) (fun fl s' q => by obtain ⟨rfl, h⟩ := q; exact good_of hg h) fun _ _ f => f.elim
end
end Mine

end
open PySem PySem.W PyProof.Rows
set_option maxRecDepth 100000 in
set_option maxHeartbeats 8000000 in
theorem PySem.Challenge.cw_pq0116_01_holds : PySem.Challenge.rw_pq0116_01.Holds := by
  w_on
  refine holds_law (by decide +kernel) fun said => ?_
  refine holds_open (q := Mine.viewQ) (loose := []) (Xt := fun s => xlAt Mine.viewQ [] s && recOk (RowW.records PySem.Challenge.rw_pq0116_01.row.toRowW) s) (XP := XL Mine.viewQ []) (Yf := Hook.obs Mine.hook) (Ya := Hook.val Mine.hook) (YP := Hook.says Mine.hook) (N := 2266) Mine.left (Hook.of Mine.hook) (Hook.keeps Mine.hook) (fun s e => xl_of s (Bool.and_eq_true_iff.mp e).1) XL.keeps (by rfl) (by rfl) (by rfl) (fun s e => recFacts_of (Bool.and_eq_true_iff.mp e).2) (by rfl) (by first | assumption | decide +kernel) (by decide +kernel) ⟨rfl, rfl, rfl, rfl, rfl, by decide +kernel⟩ ?hw ?hc
  case hw => w_witness2
  case hc =>
    intro w s₀ s₁ mg mb G Y fa o pm cd doc dV kV ho hd hcd hD hmg hg args vals as hpre hlay hrd hwl hlo
    have KX := kIn_of Y
    have X := (Ground.X G).1
    have V := (Ground.X G).2
    refine Ground.open G ?_
    intro T B D TE TW
    try (refine guard_noD D (by decide +kernel) ?_; clear D)
    obtain ⟨_, _, M⟩ := bmod_of_top T
    have TA := at_of_top T
    try (obtain ⟨_, _, he, B0⟩ := based_of_top T rfl hmg ho hd; have he' : cd = _ := he; subst he'; clear he)
    clear hmg
    wrow_args hpre hlay hrd hwl hlo
    refine enter_call ?_
    w_top on
    try refine codeAny_mono ?_ (fun _ _ g => GoodW.toG g)
    have K0 := below_caller (Top.heap T)
    w_call any ho hd hcd hD T F
    clear hd TA
    exact Mine.join01 (by kernel_rfl) (by kernel_rfl) (by assumption) (by assumption) (by assumption) (by assumption) (by kernel_rfl) (by assumption) (by assumption) (by assumption) (by assumption) (by assumption)

