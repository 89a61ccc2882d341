import PyProof.Rows.All
import Wide.All
import OpenK.AllK
import Wide.FinOn
import KE.KItem
import Lean
import PySem.Challenge.RW_xm0464_01
open PySem PySem.W PySem.Calls PyProof.Rows
set_option autoImplicit false
set_option maxRecDepth 100000
set_option genInjectivity false
set_option genSizeOfSpec false
set_option linter.unusedVariables false
set_option linter.all false
set_option Elab.async false
namespace Mine
section


inductive V where
  | none | undef
  | bool (b : Bool) | int (i : Int) | str (s : List Nat)
  | tup (vs : List V) | dict (ks : List (List Nat)) (vs : List V) | rng (lo hi : Int)
  | obj (C : Nat) (vs : List V)
  | ref (i : Nat)

inductive O where
  | list (vs : List V)
  | inst (C : Nat) (vs : List V)

abbrev Hp := List O
abbrev M (β : Type) := Hp → Option (β × Hp)
abbrev Fn := List V → M V
abbrev Tab := Nat → Fn

section
variable {β γ : Type}
noncomputable def ret (b : β) : M β := fun H => some (b, H)
noncomputable def failM : M β := fun z' => none
noncomputable def bnd (c : M β) (d : β → M γ) : M γ := fun H => match c H with
  | none => none
  | some p => d p.1 p.2
noncomputable def oB (o : Option β) (d : β → M γ) : M γ := match o with
  | none => failM
  | some b => d b
noncomputable def hB (f : Hp → Option β) (d : β → M γ) : M γ := fun H => match f H with
  | none => none
  | some b => d b H
noncomputable def orM (c d : M β) : M β := fun H => match c H with
  | none => d H
  | some p => some p
noncomputable def gd (p : Prop) [Decidable p] (c : M β) : M β := fun H => if p then c H else none
noncomputable def bM (t : Bool) (c d : M β) : M β := match t with
  | true => c
  | false => d
end

noncomputable def intO : V → Option Int
  | .int i => some i
  | _ => none
noncomputable def strO : V → Option (List Nat)
  | .str s => some s
  | _ => none
noncomputable def chrO : V → Option Nat
  | .str [c] => some c
  | _ => none
noncomputable def tupO : V → Option (List V)
  | .tup s => some s
  | _ => none
noncomputable def boolO : V → Option Bool
  | .bool s => some s
  | _ => none
noncomputable def noneO : V → Option Unit
  | .none => some ()
  | _ => none
noncomputable def refO : V → Option Nat
  | .ref s => some s
  | _ => none
noncomputable def dictO : V → Option (List (List Nat) × List V)
  | .dict k v => some (k, v)
  | _ => none
noncomputable def rngO : V → Option (Int × Int)
  | .rng k v => some (k, v)
  | _ => none
noncomputable def objO : V → Option (Nat × List V)
  | .obj k v => some (k, v)
  | _ => none
noncomputable def listO : O → Option (List V)
  | .list vs => some vs
  | _ => none
noncomputable def instO : O → Option (Nat × List V)
  | .inst C vs => some (C, vs)
  | _ => none
noncomputable def lst (v : V) (H : Hp) : Option (Nat × List V) := (refO v).bind fun i => (H[i]?.bind listO).map fun vs => (i, vs)
noncomputable def ins (v : V) (H : Hp) : Option (Nat × Nat × List V) := (refO v).bind fun i => (H[i]?.bind instO).map fun p => (i, p)
noncomputable def newL (vs : List V) : M V := fun H => some (.ref H.length, H ++ [.list vs])
noncomputable def storeL (i : Nat) (vs : List V) : M V := fun H => some (.none, H.set i (.list vs))

noncomputable def SZ : Nat := 100000
noncomputable def FUEL : Nat := 1000000
noncomputable def SMALL : Int := 2 ^ 62
noncomputable def smallI : Int → Bool
  | .ofNat n => Nat.ble n 4000000000000000000
  | .negSucc n => Nat.ble n 4000000000000000000
noncomputable def chrI : Int → Bool
  | .ofNat n => Nat.ble n 1114111
  | .negSucc _ => false

inductive Bi where | len | ord | chr | rng | str

inductive N where
  | bad
  | lit (v : V) | loc (i : Nat)
  | and (a b : N) | or (a b : N) | not (a : N) | neg (a : N) | ite (c a b : N)
  | bin (op : Operator) (a b : N) | cmp (op : CmpOp) (a b : N) | cmp2 (o1 o2 : CmpOp) (a b c : N)
  | tup (es : N) | list (es : N) | comp (elt cond iter : N)
  | call (f : Nat) (args : N) | bi (b : Bi) (args : N) | meth (o : N) (m : Nat) (args : N)
  | attr (o : N) (f : Nat) | idx (o i : N) | slc (o lo hi : N)
  | nil | cons (e es : N)
  | expr (e : N) | asg (i : Nat) (e : N) | asgM (is : List Nat) (e : N) | setA (o : N) (f : Nat) (e : N) | setI (o i e : N)
  | aug (i : Nat) (op : Operator) (e : N) | augA (o : N) (f : Nat) (op : Operator) (e : N) | augI (o i : N) (op : Operator) (e : N)
  | sif (c a b : N) | whl (c b : N) | for (t : List Nat ⊕ Nat) (it b : N)
  | rtn (e : N) | brk | pass

noncomputable def classL : List (Nat × List Nat) := [(237, [0, 1, 2, 3, 4, 5]), (176, [6, 3, 7, 8]), (210, [9, 8]), (503, [1, 3, 10, 11]), (742, [12, 3, 10, 13, 14, 15, 16, 17, 18, 19, 20, 21, 22, 23, 24, 25, 26, 27, 28, 29, 30, 31])]
noncomputable def methL : List (Nat × Nat × Nat) := [(210, 6, 202), (503, 7, 493), (503, 8, 500), (742, 9, 578), (742, 10, 592), (742, 11, 585), (742, 12, 599), (742, 13, 620)]
noncomputable def fieldsOf (C : Nat) : List Nat := ((classL.find? fun p => p.1 == C).map (·.2)).getD []
noncomputable def fldIx (C f : Nat) : Option Nat := (fieldsOf C).idxOf? f
noncomputable def methIx (C m : Nat) : Option Nat := (methL.find? fun p => p.1 == C && p.2.1 == m).map (·.2.2)
theorem class_of {C : Nat} (Q : List Nat → Prop) (h0 : Q []) (h : ∀ p ∈ classL, Q p.2) : Q (fieldsOf C) := by
  unfold fieldsOf
  cases e : classL.find? fun p => p.1 == C with
  | none => exact h0
  | some p => exact h p (List.mem_of_find?_eq_some e)
theorem meth_of {C m f : Nat} (h : methIx C m = some f) : (C, m, f) ∈ methL := by
  obtain ⟨⟨a, b, c⟩, e, rfl⟩ := Option.map_eq_some_iff.mp h
  have k := List.find?_some e
  rw [Bool.and_eq_true, beq_iff_eq, beq_iff_eq] at k
  rw [← k.1, ← k.2]
  exact List.mem_of_find?_eq_some e

noncomputable def truthy (v : V) (H : Hp) : Option Bool := match v with
  | .none => some false
  | .bool b => some b
  | .int i => some (i != 0)
  | .str s => some (!s.isEmpty)
  | .ref i => (H[i]?.bind listO).map fun vs => !vs.isEmpty
  | _ => none
noncomputable def truthyM (v : V) : M Bool := hB (truthy v) ret

noncomputable def oO {β : Type} (a b : Option β) : Option β := match a with
  | none => b
  | some x => some x
noncomputable def on2 {β γ δ : Type} (a : Option β) (b : Option γ) (f : β → γ → Option δ) : Option δ := a.bind fun x => b.bind fun y => f x y
noncomputable def eqP (a b : V) : Option Bool :=
  oO (on2 (intO a) (intO b) fun x y => some (x == y)) (oO (on2 (strO a) (strO b) fun x y => some (x == y)) (on2 (boolO a) (boolO b) fun x y => some (x == y)))
noncomputable def eqPs : List V → List V → Bool
  | [], [] => true
  | a :: as, b :: bs => (eqP a b).getD false && eqPs as bs
  | _, _ => false
noncomputable def sure (b : Bool) : Option Bool := match b with
  | true => some true
  | false => none
noncomputable def eqV (a b : V) : Option Bool := oO (on2 (tupO a) (tupO b) fun x y => sure (eqPs x y)) (eqP a b)
noncomputable def eqVs : List V → List V → Bool
  | [], [] => true
  | a :: as, b :: bs => (eqV a b).getD false && eqVs as bs
  | _, _ => false
noncomputable def eqH (a b : V) (H : Hp) : Option Bool := oO (on2 (lst a H) (lst b H) fun x y => sure (eqVs x.2 y.2)) (eqV a b)

noncomputable def lookupD (k : List Nat) : List (List Nat) → List V → Option V
  | x :: ks, v :: vs => if x = k then some v else lookupD k ks vs
  | _, _ => none
noncomputable def anyEq (v : V) : List V → Option Bool
  | [] => some false
  | x :: xs => (eqP x v).bind fun a => (anyEq v xs).map fun b => a || b
noncomputable def inV (v c : V) : Option Bool :=
  oO (on2 (strO c) (chrO v) fun h c => some (h.contains c))
  (oO (on2 (tupO c) (oO ((strO v).map fun z' => ()) ((intO v).map fun z' => ())) fun vs z' => anyEq v vs)
  (on2 (dictO c) (strO v) fun d k => some (lookupD k d.1 d.2).isSome))
noncomputable def isNone (v : V) : Option Bool := oO ((noneO v).map fun z' => true) (oO ((objO v).map fun z' => false) ((strO v).map fun z' => false))
noncomputable def int2 (a b : V) (f : Int → Int → Option Bool) : Option Bool := (intO a).bind fun x => (intO b).bind fun y => f x y
noncomputable def cmpB (op : CmpOp) (a b : V) (H : Hp) : Option Bool := match op with
  | .Eq => eqH a b H
  | .NotEq => (eqH a b H).map (!·)
  | .Lt => int2 a b fun x y => some (decide (x < y))
  | .LtE => oO (on2 (chrO a) (chrO b) fun x y => some (decide (x ≤ y))) (int2 a b fun x y => some (decide (x ≤ y)))
  | .Gt => int2 a b fun x y => some (decide (x > y))
  | .GtE => int2 a b fun x y => some (decide (x ≥ y))
  | .In => inV a b
  | .NotIn => (inV a b).map (!·)
  | .Is => (noneO b).bind fun z' => isNone a
  | .IsNot => (noneO b).bind fun z' => (isNone a).map (!·)
noncomputable def cmpV (op : CmpOp) (a b : V) : M V := hB (cmpB op a b) fun r => ret (.bool r)

noncomputable def intM (a b : V) (f : Int → Int → M V) : M V := oB (intO a) fun x => oB (intO b) fun y => f x y
noncomputable def addV (a b : V) : M V :=
  orM (intM a b fun x y => ret (.int (x + y)))
  (orM (oB (strO a) fun x => oB (strO b) fun y => gd (x.length + y.length ≤ SZ) (ret (.str (x ++ y))))
  (orM (oB (tupO a) fun x => oB (tupO b) fun y => gd (x.length + y.length ≤ SZ) (ret (.tup (x ++ y))))
  (hB (lst a) fun x => hB (lst b) fun y => gd (x.2.length + y.2.length ≤ SZ) (newL (x.2 ++ y.2)))))
noncomputable def binV (op : Operator) (a b : V) : M V := match op with
  | .Add => addV a b
  | .Sub => intM a b fun x y => ret (.int (x - y))
  | .Mult => intM a b fun x y => gd ((smallI x && smallI y) = true) (ret (.int (x * y)))
  | .FloorDiv => intM a b fun x y => gd (0 < y ∧ smallI y = true) (ret (.int (x / y)))
  | .Mod => intM a b fun x y => gd (0 < y) (ret (.int (x % y)))
  | _ => failM
noncomputable def augV (op : Operator) (a b : V) : M V := match op with
  | .Add => intM a b fun x y => ret (.int (x + y))
  | .Sub => intM a b fun x y => ret (.int (x - y))
  | _ => failM

noncomputable def place (k : Int) (n : Nat) : Option Nat :=
  if 0 ≤ k then (if k < n then some k.toNat else none) else (if -(n : Int) ≤ k then some (k + n).toNat else none)
noncomputable def idxV (o i : V) : M V :=
  orM (oB (strO o) fun s => oB (intO i) fun k => oB ((place k s.length).bind fun j => s[j]?) fun c => ret (.str [c]))
  (orM (oB (tupO o) fun vs => oB (intO i) fun k => oB ((place k vs.length).bind fun j => vs[j]?) ret)
  (orM (hB (lst o) fun vs => oB (intO i) fun k => oB ((place k vs.2.length).bind fun j => vs.2[j]?) ret)
  (oB (dictO o) fun d => oB (strO i) fun k => oB (lookupD k d.1 d.2) ret)))
noncomputable def bnd1 (d n : Nat) : V → Option Nat
  | .none => some d
  | .int k => some (if k < 0 then (k + n).toNat else min k.toNat n)
  | _ => none
noncomputable def cut {α : Type} (l : List α) (lo hi : Nat) : List α := (l.take hi).drop lo
noncomputable def slcV (o lo hi : V) : M V :=
  orM (oB (strO o) fun s => oB (bnd1 0 s.length lo) fun a => oB (bnd1 s.length s.length hi) fun b => ret (.str (cut s a b)))
  (orM (oB (tupO o) fun vs => oB (intO lo) fun k => oB (noneO hi) fun z' => gd (1 ≤ k ∧ k ≤ vs.length) (ret (.tup (vs.drop k.toNat))))
  (hB (lst o) fun vs => oB (bnd1 0 vs.2.length lo) fun a => oB (bnd1 vs.2.length vs.2.length hi) fun b => newL (cut vs.2 a b)))

noncomputable def decText (i : Int) : List Nat := (toString i).toList.map Char.toNat
noncomputable def one1 : List V → Option V
  | [x] => some x
  | _ => none
noncomputable def two2 : List V → Option (V × V)
  | [x, y] => some (x, y)
  | _ => none
noncomputable def biV (b : Bi) (vs : List V) : M V := match b with
  | .len => oB (one1 vs) fun x => orM (oB (strO x) fun s => ret (.int s.length)) (hB (lst x) fun l => ret (.int l.2.length))
  | .ord => oB (one1 vs) fun x => oB (chrO x) fun c => ret (.int c)
  | .chr => oB (one1 vs) fun x => oB (intO x) fun n => gd (chrI n = true) (ret (.str [n.toNat]))
  | .rng => orM (oB (one1 vs) fun x => oB (intO x) fun hi => gd (smallI hi = true) (ret (.rng 0 hi)))
      (oB (two2 vs) fun p => intM p.1 p.2 fun lo hi => gd ((smallI lo && smallI hi) = true) (ret (.rng lo hi)))
  | .str => oB (one1 vs) fun x => oB (intO x) fun n => gd (0 ≤ n ∧ smallI n = true ∧ (decText n).length ≤ SZ) (ret (.str (decText n)))
noncomputable def strsOf : List V → Option (List (List Nat))
  | [] => some []
  | v :: vs => (strO v).bind fun s => (strsOf vs).map (s :: ·)
noncomputable def findIx (c : Nat) : List Nat → Nat → Int
  | [], _ => -1
  | x :: xs, n => if x = c then (n : Int) else findIx c xs (n + 1)
noncomputable def bmeth (o : V) (m : Nat) (args : List V) : M V := match m with
  | 0 => hB (lst o) fun l => oB (one1 args) fun v => gd (l.2.length < SZ) (storeL l.1 (l.2 ++ [v]))
  | 1 => hB (lst o) fun l => oB (one1 args) fun v => hB (lst v) fun k => gd (l.1 ≠ k.1 ∧ l.2.length + k.2.length ≤ SZ) (storeL l.1 (l.2 ++ k.2))
  | 2 => hB (lst o) fun l => match args with
    | [] => oB l.2.getLast? fun v => bnd (storeL l.1 l.2.dropLast) fun z' => ret v
    | _ => failM
  | 3 => oB (strO o) fun s => oB (one1 args) fun v => hB (lst v) fun l => oB (strsOf l.2) fun ts => gd (s = [] ∧ ts.flatten.length ≤ SZ) (ret (.str ts.flatten))
  | 4 => oB (strO o) fun s => oB (one1 args) fun v => oB (chrO v) fun c => ret (.int (findIx c s 0))
  | 5 => oB (dictO o) fun d => oB (two2 args) fun p => oB (strO p.1) fun k => ret ((lookupD k d.1 d.2).getD p.2)
  | _ => failM

noncomputable def attrV (o : V) (f : Nat) : M V :=
  orM (oB (objO o) fun p => oB ((fldIx p.1 f).bind fun j => p.2[j]?) ret)
    (hB (ins o) fun p => oB ((fldIx p.2.1 f).bind fun j => p.2.2[j]?) ret)
noncomputable def setAttrV (o : V) (f : Nat) (v : V) : M Unit := hB (ins o) fun p => oB (fldIx p.2.1 f) fun j => gd (j < p.2.2.length) fun H => some ((), H.set p.1 (.inst p.2.1 (p.2.2.set j v)))
noncomputable def setIdxV (o i v : V) : M Unit := hB (lst o) fun l => oB (intO i) fun k => oB (place k l.2.length) fun j => fun H => some ((), H.set l.1 (.list (l.2.set j v)))
noncomputable def recvK (o : V) (m : Nat) (H : Hp) : Option (Option Nat) := match o with
  | .obj C _ => (methIx C m).map some
  | .str _ => if m = 3 ∨ m = 4 then some none else none
  | .dict _ _ => if m = 5 then some none else none
  | .ref i => H[i]?.bind fun o => match o with
    | .inst C _ => (methIx C m).map some
    | .list _ => if m ≤ 2 then some none else none
  | _ => none
noncomputable def methV (T : Tab) (k : Option Nat) (o : V) (m : Nat) (args : List V) : M V := match k with
  | some f => T f (o :: args)
  | none => bmeth o m args

noncomputable def itemAt (o : V) (n : Nat) (H : Hp) : Option (Option V) := match o with
  | .str s => some ((s[n]?).map fun c => V.str [c])
  | .tup vs => some vs[n]?
  | .rng lo hi => some (if lo + n < hi then some (.int (lo + n)) else none)
  | .ref i => (H[i]?.bind listO).map fun vs => vs[n]?
  | _ => none

noncomputable def locV (σ : List V) (i : Nat) : M V := oB σ[i]? fun v => match v with
  | .undef => failM
  | v => ret v
noncomputable def compN (f : V → M Unit) (o : V) : Nat → Nat → M Unit
  | 0, _ => failM
  | k + 1, n => hB (itemAt o n) fun r => match r with
    | none => ret ()
    | some v => bnd (f v) fun z' => compN f o k (n + 1)

mutual
noncomputable def evalE (T : Tab) : N → List V → M V
  | .lit v, _ => ret v
  | .loc i, σ => locV σ i
  | .and a b, σ => bnd (evalE T a σ) fun v => bnd (truthyM v) fun t => bM t (evalE T b σ) (ret v)
  | .or a b, σ => bnd (evalE T a σ) fun v => bnd (truthyM v) fun t => bM t (ret v) (evalE T b σ)
  | .not a, σ => bnd (evalE T a σ) fun v => bnd (truthyM v) fun t => ret (.bool (!t))
  | .neg a, σ => bnd (evalE T a σ) fun v => oB (intO v) fun i => ret (.int (-i))
  | .ite c a b, σ => bnd (bnd (evalE T c σ) truthyM) fun t => bM t (evalE T a σ) (evalE T b σ)
  | .bin op a b, σ => bnd (evalE T a σ) fun x => bnd (evalE T b σ) fun y => binV op x y
  | .cmp op a b, σ => bnd (evalE T a σ) fun x => bnd (evalE T b σ) fun y => cmpV op x y
  | .cmp2 o1 o2 a b c, σ => bnd (evalE T a σ) fun x => bnd (evalE T b σ) fun y => bnd (cmpV o1 x y) fun r => bnd (truthyM r) fun t =>
      bM t (bnd (evalE T c σ) fun z => cmpV o2 y z) (ret r)
  | .tup es, σ => bnd (evalEs T es σ) fun vs => gd (vs.length ≤ SZ) (ret (.tup vs))
  | .list es, σ => bnd (evalEs T es σ) fun vs => gd (vs.length ≤ SZ) (newL vs)
  | .comp elt cond iter, σ => bnd (evalE T iter σ) fun o => bnd (newL []) fun acc => bnd (compN (fun v =>
      bnd (bnd (evalE T cond [v]) truthyM) fun t => bM t (bnd (evalE T elt [v]) fun x => bnd (bmeth acc 0 [x]) fun z' => ret ()) (ret ())) o FUEL 0) fun z' => ret acc
  | .call f args, σ => bnd (evalEs T args σ) fun vs => T f vs
  | .bi b args, σ => bnd (evalEs T args σ) fun vs => biV b vs
  | .meth o m args, σ => bnd (evalE T o σ) fun x => hB (recvK x m) fun k => bnd (evalEs T args σ) fun vs => methV T k x m vs
  | .attr o f, σ => bnd (evalE T o σ) fun x => attrV x f
  | .idx o i, σ => bnd (evalE T o σ) fun x => bnd (evalE T i σ) fun y => idxV x y
  | .slc o lo hi, σ => bnd (evalE T o σ) fun x => bnd (evalE T lo σ) fun a => bnd (evalE T hi σ) fun b => slcV x a b
  | _, _ => failM
noncomputable def evalEs (T : Tab) : N → List V → M (List V)
  | .nil, _ => ret []
  | .cons e es, σ => bnd (evalE T e σ) fun v => bnd (evalEs T es σ) fun vs => ret (v :: vs)
  | _, _ => failM
end

inductive Fl where
  | next | brk | rtn (v : V)

abbrev Ms := M (Fl × List V)
noncomputable def setMany : List Nat → List V → List V → Option (List V)
  | [], [], σ => some σ
  | i :: is, v :: vs, σ => setMany is vs (σ.set i v)
  | _, _, _ => none
noncomputable def bindT (t : List Nat ⊕ Nat) (v : V) (σ : List V) : Option (List V) := match t with
  | .inr i => some (σ.set i v)
  | .inl is => (tupO v).bind fun vs => setMany is vs σ
noncomputable def andThen (r : Fl × List V) (k : List V → Ms) : Ms := match r.1 with
  | .next => k r.2
  | f => ret (f, r.2)
noncomputable def turned (r : Fl × List V) (k : List V → Ms) : Ms := match r.1 with
  | .next => k r.2
  | .brk => ret (.next, r.2)
  | .rtn v => ret (.rtn v, r.2)
noncomputable def whileN (c : List V → M Bool) (b : List V → Ms) : Nat → List V → Ms
  | 0, _ => failM
  | n + 1, σ => bnd (c σ) fun t => bM t (bnd (b σ) fun r => turned r (whileN c b n)) (ret (.next, σ))
noncomputable def forN (t : List Nat ⊕ Nat) (o : V) (b : List V → Ms) : Nat → Nat → List V → Ms
  | 0, _, _ => failM
  | k + 1, n, σ => hB (itemAt o n) fun r => match r with
    | none => ret (.next, σ)
    | some v => oB (bindT t v σ) fun σ1 => bnd (b σ1) fun r => turned r (forN t o b k (n + 1))

mutual
noncomputable def execS (T : Tab) : N → List V → Ms
  | .expr e, σ => bnd (evalE T e σ) fun z' => ret (.next, σ)
  | .asg i e, σ => bnd (evalE T e σ) fun v => ret (.next, σ.set i v)
  | .asgM is e, σ => bnd (evalE T e σ) fun v => oB (bindT (.inl is) v σ) fun σ1 => ret (.next, σ1)
  | .setA o f e, σ => bnd (evalE T e σ) fun v => bnd (evalE T o σ) fun x => bnd (setAttrV x f v) fun z' => ret (.next, σ)
  | .setI o i e, σ => bnd (evalE T e σ) fun v => bnd (evalE T o σ) fun x => bnd (evalE T i σ) fun y => bnd (setIdxV x y v) fun z' => ret (.next, σ)
  | .aug i op e, σ => bnd (locV σ i) fun old => bnd (evalE T e σ) fun v => bnd (augV op old v) fun r => ret (.next, σ.set i r)
  | .augA o f op e, σ => bnd (evalE T o σ) fun x => bnd (attrV x f) fun old => bnd (evalE T e σ) fun v => bnd (augV op old v) fun r => bnd (setAttrV x f r) fun z' => ret (.next, σ)
  | .augI o i op e, σ => bnd (evalE T o σ) fun x => bnd (evalE T i σ) fun y => bnd (idxV x y) fun old => bnd (evalE T e σ) fun v => bnd (augV op old v) fun r => bnd (setIdxV x y r) fun z' => ret (.next, σ)
  | .sif c a b, σ => bnd (bnd (evalE T c σ) truthyM) fun t => bM t (execSs T a σ) (execSs T b σ)
  | .whl c b, σ => whileN (fun σ => bnd (evalE T c σ) truthyM) (execSs T b) FUEL σ
  | .for t it b, σ => bnd (evalE T it σ) fun o => forN t o (execSs T b) FUEL 0 σ
  | .rtn e, σ => bnd (evalE T e σ) fun v => ret (.rtn v, σ)
  | .brk, σ => ret (.brk, σ)
  | .pass, σ => ret (.next, σ)
  | _, _ => failM
noncomputable def execSs (T : Tab) : N → List V → Ms
  | .nil, σ => ret (.next, σ)
  | .cons s ss, σ => bnd (execS T s σ) fun r => andThen r (execSs T ss)
  | _, _ => failM
end

noncomputable def outOf (r : Fl × List V) : M V := match r.1 with
  | .rtn v => ret v
  | .next => ret .none
  | .brk => failM
noncomputable def runF (T : Tab) (slots npar : Nat) (body : N) : Fn := fun args =>
  gd (args.length = npar) (bnd (execSs T body (args ++ List.replicate (slots - npar) .undef)) outOf)
end

section

abbrev Al := List (Addr × Addr)
noncomputable def toStr (s : List Nat) : Str := ⟨s.toArray⟩
theorem toStr_length (s : List Nat) : (toStr s).length = s.length := by simp [toStr, Str.length]
theorem toStr_inj {a b : List Nat} (h : toStr a = toStr b) : a = b := by
  have := congrArg (fun x : Str => x.cps.toList) h
  simpa [toStr] using this

noncomputable def attrNames : List Str := ["kind", "text", "num", "at", "end", "line_before", "number", "args", "file", "rows", "diags", "last", "tokens", "parts", "firsts", "tails", "types", "deep", "pending", "allow_in", "in_func", "in_loop", "in_switch", "labels", "no_cond", "ret_bar", "in_literal", "covers", "commas", "not_arrow", "splits", "saved"]
noncomputable def attrName (i : Nat) : Str := attrNames.getD i ""
noncomputable def fnames (C : Nat) : List Str := (fieldsOf C).map attrName

def KeysR (P : Params) : List Str → List DictEntry → Prop
  | [], [] => True
  | k :: ks, d :: ds => (∃ t, d.key = .str k t) ∧ d.hash = PyData.keyHash P k ∧ KeysR P ks ds
  | _, _ => False
def StrV (l : List Nat) : Prop := l.length ≤ SZ ∧ ∀ c ∈ l, c < 1114112
def Foot (α : Al) (a : Addr) : Prop := ∃ p ∈ α, a = p.1 ∨ a = p.2

structure St where
  s : Shared
  α : Al
  W : Addr → Prop

mutual
def VR (P : Params) (t : St) : V → Value → Prop
  | .none, x => x = .none
  | .undef, _ => False
  | .bool b, x => x = .bool b
  | .int i, x => ∃ k, x = .int i k
  | .str s, x => StrV s ∧ ∃ k, x = .str (toStr s) k
  | .tup vs, x => vs.length ≤ SZ ∧ ∃ a xs, x = .ref a ∧ ¬ t.W a ∧ t.s.heap.IsTuple a (List.toArray xs) ∧ VRs P t vs xs
  | .dict ks vs, x => ∃ a ds ep, x = .ref a ∧ ¬ t.W a ∧ a ≠ sysModules ∧ t.s.heap.get? a = some (dictOf ds ep) ∧ KeysR P (ks.map toStr) ds ∧ VRs P t vs (ds.map (·.val))
  | .rng lo hi, x => ∃ a k u v, x = .ref a ∧ ¬ t.W a ∧ IsRange t.s.heap a lo hi 1 k u v ∧ -SMALL < lo ∧ lo < SMALL ∧ -SMALL < hi ∧ hi < SMALL
  | .obj C vs, x => ∃ a dx ds ep, x = .ref a ∧ ¬ t.W a ∧ ¬ t.W dx ∧ t.s.heap.get? a = some (instObj C dx) ∧ t.s.heap.get? dx = some (dictOf ds ep) ∧ KeysR P (fnames C) ds ∧ VRs P t vs (ds.map (·.val))
  | .ref i, x => ∃ p, t.α[i]? = some p ∧ x = .ref p.1
def VRs (P : Params) (t : St) : List V → List Value → Prop
  | [], [] => True
  | v :: vs, x :: xs => VR P t v x ∧ VRs P t vs xs
  | _, _ => False
end

def OR (P : Params) (t : St) : O → Addr × Addr → Prop
  | .list vs, p => vs.length ≤ SZ ∧ p.2 = p.1 ∧ ∃ xs, t.s.heap.PlainList p.1 (List.toArray xs) ∧ VRs P t vs xs
  | .inst C vs, p => ∃ ds ep, t.s.heap.get? p.1 = some (instObj C p.2) ∧ t.s.heap.get? p.2 = some (dictOf ds ep) ∧ KeysR P (fnames C) ds ∧ VRs P t vs (ds.map (·.val))

structure Ext (E : Addr → Prop) (t u : St) : Prop where
  pre : ∃ β, u.α = t.α ++ β ∧ ∀ p ∈ β, t.s.heap.objs.size ≤ p.1 ∧ t.s.heap.objs.size ≤ p.2
  size : t.s.heap.objs.size ≤ u.s.heap.objs.size
  wmono : ∀ b, t.W b → u.W b
  wnew : ∀ b, b < t.s.heap.objs.size → u.W b → t.W b
  keeps : ∀ b o, t.s.heap.get? b = some o → ¬ Foot t.α b → ¬ E b → u.s.heap.get? b = some o
  keepsV : ∀ b o, t.s.heap.get? b = some o → ¬ t.W b → u.s.heap.get? b = some o
  gens : u.s.gens = t.s.gens
  os : u.s.os = t.s.os

abbrev noX : Addr → Prop := fun z' => False

structure Cf where
  prog : Program
  w : World
  K : Frag
  h₀ : Heap
  mg : Str → Option Value
  mb : Str → Option Value

structure Inv (X : Cf) (t : St) (H : Hp) : Prop where
  keep : ∀ b o, X.h₀.get? b = some o → t.s.heap.get? b = some o
  low : ∀ b o, X.h₀.get? b = some o → ¬ t.W b
  len : t.α.length = H.length
  objs : ∀ (i : Nat) (o : O), H[i]? = some o → ∃ p, t.α[i]? = some p ∧ OR X.w.params t o p
  foot : ∀ p ∈ t.α, t.W p.1 ∧ t.W p.2
  apart : ∀ (i j : Nat) (p q : Addr × Addr), t.α[i]? = some p → t.α[j]? = some q → i ≠ j → p.1 ≠ q.1 ∧ p.1 ≠ q.2 ∧ p.2 ≠ q.1 ∧ p.2 ≠ q.2
  wlt : ∀ b, t.W b → b < t.s.heap.objs.size

theorem Foot.append {α β : Al} {a : Addr} (h : Foot (α ++ β) a) : Foot α a ∨ Foot β a := by
  obtain ⟨p, hp, h⟩ := h
  exact (List.mem_append.mp hp).imp (fun hp => ⟨p, hp, h⟩) (fun hp => ⟨p, hp, h⟩)

section
variable {X : Cf} {E F : Addr → Prop} {t u v : St} {H : Hp}

theorem Inv.footW (I : Inv X t H) {a : Addr} (h : Foot t.α a) : t.W a := by
  obtain ⟨p, hp, rfl | rfl⟩ := h
  · exact (I.foot p hp).1
  · exact (I.foot p hp).2
theorem Ext.refl : Ext E t t := ⟨⟨[], by simp, by simp⟩, Nat.le_refl _, fun z' h => h, fun z' z' h => h, fun z' z' e z' z' => e, fun z' z' e z' => e, rfl, rfl⟩
theorem Ext.footOld (e : Ext E t u) {b : Addr} (hb : b < t.s.heap.objs.size) (h : Foot u.α b) : Foot t.α b := by
  obtain ⟨β, hq, hβ⟩ := e.pre
  rw [hq] at h
  rcases Foot.append h with h | ⟨p, hp, rfl | rfl⟩
  · exact h
  · exact absurd hb (Nat.not_lt.mpr (hβ p hp).1)
  · exact absurd hb (Nat.not_lt.mpr (hβ p hp).2)
theorem Ext.trans (e : Ext E t u) (f : Ext E u v) : Ext E t v := by
  obtain ⟨β, h1, h2⟩ := e.pre
  obtain ⟨γ, h3, h4⟩ := f.pre
  refine ⟨⟨β ++ γ, by rw [h3, h1, List.append_assoc], fun p hp => ?_⟩, Nat.le_trans e.size f.size, fun b h => f.wmono b (e.wmono b h), fun b hb h => e.wnew b hb (f.wnew b (Nat.lt_of_lt_of_le hb e.size) h),
    fun b o g hf hx => f.keeps b o (e.keeps b o g hf hx) (fun z => hf (e.footOld (Heap.lt_size g) z)) hx, fun b o g hw => f.keepsV b o (e.keepsV b o g hw) (fun z => hw (e.wnew b (Heap.lt_size g) z)), f.gens.trans e.gens, f.os.trans e.os⟩
  rcases List.mem_append.mp hp with hp | hp
  · exact h2 p hp
  · exact ⟨Nat.le_trans e.size (h4 p hp).1, Nat.le_trans e.size (h4 p hp).2⟩
theorem Ext.to (e : Ext E t u) (h : ∀ b, E b → F b ∨ t.s.heap.objs.size ≤ b) : Ext F t u :=
  { e with keeps := fun b o g hf hy => e.keeps b o g hf fun hx => (h b hx).elim hy fun q => Nat.lt_irrefl _ (Nat.lt_of_lt_of_le (Heap.lt_size g) q) }
theorem Ext.no (e : Ext noX t u) : Ext F t u := e.to fun z' h => h.elim
theorem Ext.alGet (e : Ext E t u) {i : Nat} {p : Addr × Addr} (h : t.α[i]? = some p) : u.α[i]? = some p := by
  obtain ⟨β, hq, _⟩ := e.pre
  rw [hq, List.getElem?_append_left (List.getElem?_eq_some_iff.mp h).1]; exact h

structure Mv (t u : St) : Prop where
  k : ∀ b o, t.s.heap.get? b = some o → ¬ t.W b → u.s.heap.get? b = some o
  w : ∀ b o, t.s.heap.get? b = some o → u.W b → t.W b
  a : ∀ (i : Nat) (p : Addr × Addr), t.α[i]? = some p → u.α[i]? = some p
theorem Ext.mv (e : Ext E t u) : Mv t u := ⟨e.keepsV, fun b z' g => e.wnew b (Heap.lt_size g), fun z' z' => e.alGet⟩

mutual
theorem VR.mv {P : Params} (m : Mv t u) : ∀ (v : V) (x : Value), VR P t v x → VR P u v x
  | .none, _, r => r
  | .undef, _, r => r
  | .bool _, _, r => r
  | .int _, _, r => r
  | .str _, _, r => r
  | .tup vs, _, r => by
    obtain ⟨hz, a, xs, hx, hn, ht, hv⟩ := r
    obtain ⟨o, ho, hr⟩ := ht
    exact ⟨hz, a, xs, hx, fun z => hn (m.w a _ ho z), ⟨o, m.k a o ho hn, hr⟩, VRs.mv m vs xs hv⟩
  | .dict _ vs, _, r => by
    obtain ⟨a, ds, ep, hx, hn, hs, hg, hK, hv⟩ := r
    exact ⟨a, ds, ep, hx, fun z => hn (m.w a _ hg z), hs, m.k a _ hg hn, hK, VRs.mv m vs _ hv⟩
  | .rng _ _, _, r => by
    obtain ⟨a, k, u, v, hx, hn, hg, hr⟩ := r
    exact ⟨a, k, u, v, hx, fun z => hn (m.w a _ hg z), m.k a _ hg hn, hr⟩
  | .obj _ vs, _, r => by
    obtain ⟨a, dx, ds, ep, hx, hn, hd, hg, hgd, hK, hv⟩ := r
    exact ⟨a, dx, ds, ep, hx, fun z => hn (m.w a _ hg z), fun z => hd (m.w dx _ hgd z), m.k a _ hg hn, m.k dx _ hgd hd, hK, VRs.mv m vs _ hv⟩
  | .ref i, _, r => r.elim fun p q => ⟨p, m.a i p q.1, q.2⟩
theorem VRs.mv {P : Params} (m : Mv t u) : ∀ (vs : List V) (xs : List Value), VRs P t vs xs → VRs P u vs xs
  | [], [], _ => trivial
  | v :: vs, x :: xs, r => ⟨VR.mv m v x r.1, VRs.mv m vs xs r.2⟩
  | [], _ :: _, r => r.elim
  | _ :: _, [], r => r.elim
end
theorem Ext.vr (e : Ext E t u) {v : V} {x : Value} (r : VR X.w.params t v x) : VR X.w.params u v x := VR.mv e.mv v x r
theorem Ext.vrs (e : Ext E t u) {v : List V} {x : List Value} (r : VRs X.w.params t v x) : VRs X.w.params u v x := VRs.mv e.mv v x r

theorem VRs.length {P : Params} : ∀ {vs : List V} {xs : List Value}, VRs P t vs xs → vs.length = xs.length
  | [], [], _ => rfl
  | _ :: _, _ :: _, r => congrArg (· + 1) (VRs.length r.2)
  | [], _ :: _, r => r.elim
  | _ :: _, [], r => r.elim
theorem VRs.get {P : Params} : ∀ {vs : List V} {xs : List Value} {i : Nat} {v : V}, VRs P t vs xs → vs[i]? = some v → ∃ x, xs[i]? = some x ∧ VR P t v x
  | v :: vs, x :: xs, 0, _, r, e => ⟨x, rfl, by cases e; exact r.1⟩
  | v :: vs, x :: xs, i + 1, w, r, e => VRs.get (i := i) r.2 e
  | [], _, _, _, _, e => by cases e
  | _ :: _, [], _, _, r, _ => r.elim
theorem VRs.append {P : Params} : ∀ {vs ws : List V} {xs ys : List Value}, VRs P t vs xs → VRs P t ws ys → VRs P t (vs ++ ws) (xs ++ ys)
  | [], _, [], _, _, r => r
  | _ :: _, _, _ :: _, _, q, r => ⟨q.1, VRs.append q.2 r⟩
  | [], _, _ :: _, _, q, _ => q.elim
  | _ :: _, _, [], _, q, _ => q.elim
theorem VRs.drop {P : Params} : ∀ (n : Nat) {vs : List V} {xs : List Value}, VRs P t vs xs → VRs P t (vs.drop n) (xs.drop n)
  | 0, _, _, r => r
  | n + 1, [], [], _ => trivial
  | n + 1, _ :: _, _ :: _, r => VRs.drop n r.2
  | _ + 1, [], _ :: _, r => r.elim
  | _ + 1, _ :: _, [], r => r.elim
theorem VRs.take {P : Params} : ∀ (n : Nat) {vs : List V} {xs : List Value}, VRs P t vs xs → VRs P t (vs.take n) (xs.take n)
  | 0, _, _, _ => trivial
  | n + 1, [], [], _ => trivial
  | n + 1, _ :: _, _ :: _, r => ⟨r.1, VRs.take n r.2⟩
  | _ + 1, [], _ :: _, r => r.elim
  | _ + 1, _ :: _, [], r => r.elim
theorem VRs.set {P : Params} : ∀ {vs : List V} {xs : List Value} (i : Nat) {v : V} {x : Value}, VRs P t vs xs → VR P t v x → VRs P t (vs.set i v) (xs.set i x)
  | [], [], _, _, _, _, _ => trivial
  | _ :: _, _ :: _, 0, _, _, q, r => ⟨r, q.2⟩
  | _ :: _, _ :: _, i + 1, _, _, q, r => ⟨q.1, VRs.set i q.2 r⟩
  | [], _ :: _, _, _, _, q, _ => q.elim
  | _ :: _, [], _, _, _, q, _ => q.elim

theorem Mv.grow {t : St} {p : Addr × Addr} : Mv t ⟨t.s, t.α ++ [p], t.W⟩ :=
  ⟨fun z' z' e z' => e, fun z' z' z' h => h, fun i q e => by
    show (t.α ++ [p])[i]? = some q
    rw [List.getElem?_append_left (List.getElem?_eq_some_iff.mp e).1]; exact e⟩

theorem Ext.grow (e : Ext E t u) {p : Addr × Addr} (h : t.s.heap.objs.size ≤ p.1 ∧ t.s.heap.objs.size ≤ p.2) : Ext E t ⟨u.s, u.α ++ [p], u.W⟩ := by
  refine ⟨?_, e.size, e.wmono, e.wnew, e.keeps, e.keepsV, e.gens, e.os⟩
  obtain ⟨β, hq, hβ⟩ := e.pre
  refine ⟨β ++ [p], by show u.α ++ [p] = _; rw [hq, List.append_assoc], fun q hq => ?_⟩
  rcases List.mem_append.mp hq with hq | hq
  · exact hβ q hq
  · rw [List.mem_singleton.mp hq]; exact h

theorem OR.mv {P : Params} {o : O} {p : Addr × Addr} (m : Mv t u) (h1 : ∀ o, t.s.heap.get? p.1 = some o → u.s.heap.get? p.1 = some o) (h2 : ∀ o, t.s.heap.get? p.2 = some o → u.s.heap.get? p.2 = some o) (r : OR P t o p) : OR P u o p := by
  cases o with
  | list vs =>
    obtain ⟨hz, e, xs, hl, hv⟩ := r
    exact ⟨hz, e, xs, hl.at h1, VRs.mv m _ _ hv⟩
  | inst C vs =>
    obtain ⟨ds, ep, g1, g2, hK, hv⟩ := r
    exact ⟨ds, ep, h1 _ g1, h2 _ g2, hK, VRs.mv m _ _ hv⟩

theorem Inv.kept (I : Inv X t H) {h' : Heap} (tk : Nat) (k : ∀ b x, t.s.heap.get? b = some x → h'.get? b = some x) (hs : t.s.heap.objs.size ≤ h'.objs.size) :
    Inv X ⟨{ t.s with heap := h', toks := tk }, t.α, t.W⟩ H ∧ Ext noX t ⟨{ t.s with heap := h', toks := tk }, t.α, t.W⟩ := by
  have e : Ext noX t ⟨{ t.s with heap := h', toks := tk }, t.α, t.W⟩ := ⟨⟨[], by simp, by simp⟩, hs, fun z' h => h, fun z' z' h => h, fun b x e z' z' => k b x e, fun b x e z' => k b x e, rfl, rfl⟩
  refine ⟨⟨fun b x e => k b x (I.keep b x e), I.low, I.len, fun i x hx => ?_, I.foot, I.apart, fun b h => Nat.lt_of_lt_of_le (I.wlt b h) hs⟩, e⟩
  obtain ⟨p, hp, r⟩ := I.objs i x hx
  exact ⟨p, hp, r.mv e.mv (fun x e => k _ x e) (fun x e => k _ x e)⟩
theorem Inv.push (I : Inv X t H) (o : Obj) (tk : Nat) : Inv X ⟨{ t.s with heap := t.s.heap.push o, toks := tk }, t.α, t.W⟩ H ∧ Ext noX t ⟨{ t.s with heap := t.s.heap.push o, toks := tk }, t.α, t.W⟩ :=
  I.kept tk (fun z' z' e => Heap.get?_push_of_some _ e) (by rw [Heap.size_push]; exact Nat.le_succ _)
theorem Inv.toks (I : Inv X t H) (tk : Nat) : Inv X ⟨{ t.s with toks := tk }, t.α, t.W⟩ H ∧ Ext noX t ⟨{ t.s with toks := tk }, t.α, t.W⟩ := I.kept tk (fun z' z' e => e) (Nat.le_refl _)

theorem Inv.upd (I : Inv X t H) {i : Nat} {p : Addr × Addr} {o' : O} {h' : Heap} (tk : Nat) (hp : t.α[i]? = some p) (k : ∀ b x, b ≠ p.1 → b ≠ p.2 → t.s.heap.get? b = some x → h'.get? b = some x)
    (hs : t.s.heap.objs.size ≤ h'.objs.size) (ho : Mv t ⟨{ t.s with heap := h', toks := tk }, t.α, t.W⟩ → OR X.w.params ⟨{ t.s with heap := h', toks := tk }, t.α, t.W⟩ o' p) :
    Inv X ⟨{ t.s with heap := h', toks := tk }, t.α, t.W⟩ (H.set i o') ∧ Ext noX t ⟨{ t.s with heap := h', toks := tk }, t.α, t.W⟩ := by
  have hm : p ∈ t.α := List.mem_of_getElem? hp
  have kw : ∀ b x, t.s.heap.get? b = some x → ¬ t.W b → h'.get? b = some x := fun b x e hn => k b x (fun z => hn (z ▸ (I.foot p hm).1)) (fun z => hn (z ▸ (I.foot p hm).2)) e
  have e : Ext noX t ⟨{ t.s with heap := h', toks := tk }, t.α, t.W⟩ := ⟨⟨[], by simp, by simp⟩, hs, fun z' h => h, fun z' z' h => h, fun b x e hf z' => k b x (fun z => hf ⟨p, hm, .inl z⟩) (fun z => hf ⟨p, hm, .inr z⟩) e, kw, rfl, rfl⟩
  refine ⟨⟨fun b x e => kw b x (I.keep b x e) (I.low b x e), I.low, by simpa using I.len, fun j x hx => ?_, I.foot, I.apart, fun b h => Nat.lt_of_lt_of_le (I.wlt b h) hs⟩, e⟩
  by_cases hij : i = j
  · subst hij
    rw [List.getElem?_set_self (by rw [← I.len]; exact (List.getElem?_eq_some_iff.mp hp).1)] at hx
    cases hx
    exact ⟨p, hp, ho e.mv⟩
  · rw [List.getElem?_set_ne hij] at hx
    obtain ⟨q, hq, r⟩ := I.objs j x hx
    have ap := I.apart i j p q hp hq hij
    exact ⟨q, hq, r.mv e.mv (fun x e => k _ x (Ne.symm ap.1) (Ne.symm ap.2.2.1) e) (fun x e => k _ x (Ne.symm ap.2.1) (Ne.symm ap.2.2.2) e)⟩

theorem Inv.turn (I : Inv X t H) {h' : Heap} {L : Addr} (tk : Nat) (hL : t.W L) (hf : ¬ Foot t.α L) (hs : Heap.ExtBut L t.s.heap h') (hz : t.s.heap.objs.size ≤ h'.objs.size) :
    Inv X ⟨{ t.s with heap := h', toks := tk }, t.α, t.W⟩ H ∧ Ext (· = L) t ⟨{ t.s with heap := h', toks := tk }, t.α, t.W⟩ := by
  have kw : ∀ b x, t.s.heap.get? b = some x → ¬ t.W b → h'.get? b = some x := fun b x e hn => hs b x (fun z => hn (z ▸ hL)) e
  have e : Ext (· = L) t ⟨{ t.s with heap := h', toks := tk }, t.α, t.W⟩ := ⟨⟨[], by simp, by simp⟩, hz, fun z' h => h, fun z' z' h => h, fun b x e z' hx => hs b x hx e, kw, rfl, rfl⟩
  refine ⟨⟨fun b x e => kw b x (I.keep b x e) (I.low b x e), I.low, I.len, fun i x hx => ?_, I.foot, I.apart, fun b h => Nat.lt_of_lt_of_le (I.wlt b h) hz⟩, e⟩
  obtain ⟨p, hp, r⟩ := I.objs i x hx
  have hm := List.mem_of_getElem? hp
  exact ⟨p, hp, r.mv e.mv (fun x e => hs _ x (fun z => hf ⟨p, hm, .inl z.symm⟩) e) (fun x e => hs _ x (fun z => hf ⟨p, hm, .inr z.symm⟩) e)⟩

theorem Inv.watch (I : Inv X t H) {h' : Heap} {L : Addr} (tk : Nat) (k : ∀ b x, t.s.heap.get? b = some x → h'.get? b = some x) (h1 : t.s.heap.objs.size ≤ L) (h2 : L < h'.objs.size) :
    Inv X ⟨{ t.s with heap := h', toks := tk }, t.α, fun b => t.W b ∨ b = L⟩ H ∧ Ext noX t ⟨{ t.s with heap := h', toks := tk }, t.α, fun b => t.W b ∨ b = L⟩ := by
  have hs : t.s.heap.objs.size ≤ h'.objs.size := Nat.le_of_lt (Nat.lt_of_le_of_lt h1 h2)
  have wn : ∀ b, b < t.s.heap.objs.size → (t.W b ∨ b = L) → t.W b := fun b hb h => h.elim id fun e => absurd hb (by rw [e]; exact Nat.not_lt.mpr h1)
  have e : Ext noX t ⟨{ t.s with heap := h', toks := tk }, t.α, fun b => t.W b ∨ b = L⟩ := ⟨⟨[], by simp, by simp⟩, hs, fun z' h => .inl h, wn, fun b x e z' z' => k b x e, fun b x e z' => k b x e, rfl, rfl⟩
  refine ⟨⟨fun b x e => k b x (I.keep b x e), fun b x e h => I.low b x e (wn b (Heap.lt_size (I.keep b x e)) h), I.len, fun i x hx => ?_, fun p hp => ⟨.inl (I.foot p hp).1, .inl (I.foot p hp).2⟩, I.apart, fun b h => ?_⟩, e⟩
  · obtain ⟨p, hp, r⟩ := I.objs i x hx
    exact ⟨p, hp, r.mv e.mv (fun x e => k _ x e) (fun x e => k _ x e)⟩
  · show b < h'.objs.size
    rcases h with h | rfl
    · exact Nat.lt_of_lt_of_le (I.wlt b h) hs
    · exact h2

theorem Inv.adopt (I : Inv X t H) {p : Addr × Addr} {o : O} (hx : t.W p.1) (hd : t.W p.2) (fx : ¬ Foot t.α p.1) (fd : ¬ Foot t.α p.2) (ho : OR X.w.params ⟨t.s, t.α ++ [p], t.W⟩ o p) :
    Inv X ⟨t.s, t.α ++ [p], t.W⟩ (H ++ [o]) := by
  have cs : ∀ (i : Nat) (q : Addr × Addr), (t.α ++ [p])[i]? = some q → t.α[i]? = some q ∨ (i = t.α.length ∧ q = p) := fun i q e => by
    by_cases hi : i < t.α.length
    · rw [List.getElem?_append_left hi] at e; exact .inl e
    · have h2 : i = t.α.length := by
        have := (List.getElem?_eq_some_iff.mp e).1
        rw [List.length_append, List.length_singleton] at this; omega
      subst h2; rw [List.getElem?_concat_length] at e; exact .inr ⟨rfl, (Option.some.inj e).symm⟩
  have off : ∀ (i : Nat) (q : Addr × Addr), t.α[i]? = some q → q.1 ≠ p.1 ∧ q.1 ≠ p.2 ∧ q.2 ≠ p.1 ∧ q.2 ≠ p.2 := fun i q e => by
    have hm := List.mem_of_getElem? e
    exact ⟨fun z => fx ⟨q, hm, .inl z.symm⟩, fun z => fd ⟨q, hm, .inl z.symm⟩, fun z => fx ⟨q, hm, .inr z.symm⟩, fun z => fd ⟨q, hm, .inr z.symm⟩⟩
  have m : Mv t ⟨t.s, t.α ++ [p], t.W⟩ := Mv.grow
  refine ⟨I.keep, I.low, by rw [List.length_append, List.length_append, I.len]; rfl, fun i y e => ?_, fun q hq => ?_, fun i j q r hq hr hij => ?_, I.wlt⟩
  · by_cases hi : i < H.length
    · rw [List.getElem?_append_left hi] at e
      obtain ⟨q, hq, r⟩ := I.objs i y e
      exact ⟨q, m.a i q hq, r.mv m (fun z' e => e) (fun z' e => e)⟩
    · have h2 : i = H.length := by
        have := (List.getElem?_eq_some_iff.mp e).1
        rw [List.length_append, List.length_singleton] at this; omega
      subst h2; rw [List.getElem?_concat_length] at e; cases e
      exact ⟨p, by show (t.α ++ [p])[H.length]? = _; rw [← I.len, List.getElem?_concat_length], ho⟩
  · rcases List.mem_append.mp hq with hq | hq
    · exact I.foot q hq
    · rw [List.mem_singleton.mp hq]; exact ⟨hx, hd⟩
  · rcases cs i q hq with hq' | ⟨rfl, rfl⟩ <;> rcases cs j r hr with hr' | ⟨rfl, rfl⟩
    · exact I.apart i j q r hq' hr' hij
    · exact off i q hq'
    · have := off j r hr'; exact ⟨this.1.symm, this.2.2.1.symm, this.2.1.symm, this.2.2.2.symm⟩
    · exact absurd rfl hij
end

structure Frm (X : Cf) (t : St) (L : Addr) (ls : List Str) (σ : List V) : Prop where
  ns : ∃ m, t.s.heap.Ns L m ∧ ∀ (i : Nat) (x : Str) (v : V), ls[i]? = some x → σ[i]? = some v → v = .undef ∨ ∃ y, m x = some y ∧ VR X.w.params t v y
  wL : t.W L
  off : ¬ Foot t.α L

theorem Frm.ext {X : Cf} {t u : St} {E : Addr → Prop} {L : Addr} {ls : List Str} {σ : List V} (F : Frm X t L ls σ) (e : Ext E t u) (hL : ¬ E L) : Frm X u L ls σ := by
  obtain ⟨m, hn, hv⟩ := F.ns
  obtain ⟨o, es, ep, ho, r⟩ := hn
  refine ⟨⟨m, ⟨o, es, ep, e.keeps _ _ ho F.off hL, r⟩, fun i x v h1 h2 => (hv i x v h1 h2).imp_right fun ⟨y, hy, r⟩ => ⟨y, hy, e.vr r⟩⟩, e.wmono L F.wL, fun z => F.off (e.footOld (Heap.lt_size ho) z)⟩
end

section
abbrev noE : Value → Shared → Prop := fun z' z' => False
abbrev Wp {α : Type} (X : Cf) (A : Around) (m : Sem α) (Q : α → Shared → Prop) (s : Shared) : Prop := wpAny (model X.prog X.w) A m Q noE s

def QQ {α : Type} (E : Addr → Prop) (t : St) (Q : St → α → Prop) (a : α) (s : Shared) : Prop := ∃ u : St, u.s = s ∧ Ext E t u ∧ Q u a
def Sat {α : Type} (X : Cf) (A : Around) (E : Addr → Prop) (t : St) (m : Sem α) (Q : St → α → Prop) : Prop := Wp X A m (QQ E t Q) t.s
def SimH {α β : Type} (X : Cf) (A : Around) (E : Addr → Prop) (t : St) (H : Hp) (m : Sem α) (c : Option (β × Hp)) (R : St → β → α → Prop) : Prop :=
  Inv X t H → ∀ p, c = some p → Sat X A E t m fun u a => Inv X u p.2 ∧ R u p.1 a
def Sim {α β : Type} (X : Cf) (A : Around) (E : Addr → Prop) (t : St) (m : Sem α) (c : M β) (R : St → β → α → Prop) : Prop := ∀ H, SimH X A E t H m (c H) R

section
variable {X : Cf} {A : Around} {E F : Addr → Prop} {t u : St} {α β γ δ : Type} {H : Hp}

theorem Sat.mk {m : Sem α} {Q : St → α → Prop} (h : Wp X A m (fun a s => ∃ u : St, u.s = s ∧ Ext E t u ∧ Q u a) t.s) : Sat X A E t m Q := h
theorem Sat.seq {m : Sem α} {P : St → α → Prop} {k : α → Sem β} {Q : St → β → Prop} (e0 : Ext E t u) (h : Sat X A E u m P) (g : ∀ v a, Ext E u v → P v a → Sat X A E v (k a) Q) : Wp X A m (fun a s => Wp X A (k a) (QQ E t Q) s) u.s :=
  wpAny_mono h (fun a s q => by
    obtain ⟨v, rfl, e, p⟩ := q
    exact wpAny_mono (g v a e p) (fun b s q => let ⟨x, y, z, w⟩ := q; ⟨x, y, e0.trans (e.trans z), w⟩) fun z' z' x => x) fun z' z' x => x
theorem Sat.bind {m : Sem α} {P : St → α → Prop} {k : α → Sem β} {Q : St → β → Prop} (h : Sat X A E t m P) (g : ∀ v a, Ext E t v → P v a → Sat X A E v (k a) Q) : Sat X A E t (m >>= k) Q :=
  wpAny_bind (Sat.seq .refl h g)
theorem Sat.mono {m : Sem α} {P Q : St → α → Prop} (h : Sat X A E t m P) (g : ∀ v a, Ext E t v → P v a → Q v a) : Sat X A E t m Q :=
  wpAny_mono h (fun a s q => let ⟨v, y, e, p⟩ := q; ⟨v, y, e, g v a e p⟩) fun z' z' x => x
theorem Sat.weak {m : Sem α} {Q : St → α → Prop} (h : Sat X A noX t m Q) : Sat X A E t m Q := wpAny_mono h (fun a s q => let ⟨v, y, e, p⟩ := q; ⟨v, y, e.no, p⟩) fun z' z' x => x
theorem Wp.any {m : Sem α} {Q : α → Shared → Prop} {E' : Value → Shared → Prop} {s : Shared} (h : Wp X A m Q s) : wpAny (model X.prog X.w) A m Q E' s := wpAny_mono h (fun z' z' h => h) fun z' z' x => x.elim
theorem Sat.then {m : Sem α} {P : St → α → Prop} {Q : α → Shared → Prop} {E' : Value → Shared → Prop} (h : Sat X A E t m P) (k : ∀ u a, Ext E t u → P u a → Q a u.s) : wpAny (model X.prog X.w) A m Q E' t.s :=
  wpAny_mono h (fun a s q => let ⟨u, hs, e, p⟩ := q; hs ▸ k u a e p) fun z' z' x => x.elim
theorem Sat.here {a : α} {Q : St → α → Prop} (h : Q t a) : QQ E t Q a t.s := ⟨t, rfl, .refl, h⟩
theorem Sat.from {Q : St → α → Prop} {a : α} {s : Shared} (e : Ext E t u) (q : QQ E u Q a s) : QQ E t Q a s := let ⟨v, y, z, w⟩ := q; ⟨v, y, e.trans z, w⟩

theorem bnd_get {c : M α} {d : α → M β} {p : β × Hp} {G : Prop} (e : bnd c d H = some p) (k : ∀ b H1, c H = some (b, H1) → d b H1 = some p → G) : G := by
  unfold bnd at e
  cases hc : c H with
  | none => rw [hc] at e; cases e
  | some q => rw [hc] at e; exact k q.1 q.2 hc e
theorem hB_get {f : Hp → Option γ} {d : γ → M β} {p : β × Hp} {G : Prop} (e : hB f d H = some p) (k : ∀ b, f H = some b → d b H = some p → G) : G := by
  unfold hB at e
  cases hf : f H with
  | none => rw [hf] at e; cases e
  | some b => rw [hf] at e; exact k b hf e
theorem oB_get {o : Option γ} {d : γ → M β} {p : β × Hp} {G : Prop} (e : oB o d H = some p) (k : ∀ b, o = some b → d b H = some p → G) : G := by
  cases o with
  | none => cases e
  | some b => exact k b rfl e
theorem Sim.bind {m : Sem α} {c : M β} {R : St → β → α → Prop} {k : α → Sem γ} {d : β → M δ} {R2 : St → δ → γ → Prop} (h : Sim X A E t m c R) (g : ∀ v b a, Ext E t v → R v b a → Sim X A E v (k a) (d b) R2) : Sim X A E t (m >>= k) (bnd c d) R2 := by
  intro H I p e
  unfold bnd at e
  cases hc : c H with
  | none => rw [hc] at e; cases e
  | some q =>
    rw [hc] at e
    exact Sat.bind (h H I q hc) fun v a x r => g v q.1 a x r.2 q.2 r.1 p e
theorem Sim.seq {m : Sem α} {c : M β} {R : St → β → α → Prop} {k : α → Sem γ} {d : β → M δ} {R2 : St → δ → γ → Prop} (h : Sim X A E t m c R) (g : ∀ v b a, Ext E t v → R v b a → Sim X A E v (k a) (d b) R2) (I : Inv X t H) {p : δ × Hp} (e : bnd c d H = some p) :
    Wp X A m (fun a s => Wp X A (k a) (QQ E t fun u a => Inv X u p.2 ∧ R2 u p.1 a) s) t.s := by
  unfold bnd at e
  cases hc : c H with
  | none => rw [hc] at e; cases e
  | some q =>
    rw [hc] at e
    exact Sat.seq .refl (h H I q hc) fun v a x r => g v q.1 a x r.2 q.2 r.1 p e
theorem Sim.mono {m : Sem α} {c : M β} {R R2 : St → β → α → Prop} (h : Sim X A E t m c R) (g : ∀ v b a, Ext E t v → R v b a → R2 v b a) : Sim X A E t m c R2 := fun H I p e => (h H I p e).mono fun v a x r => ⟨r.1, g v p.1 a x r.2⟩
theorem Sim.weak {m : Sem α} {c : M β} {R : St → β → α → Prop} (h : Sim X A noX t m c R) : Sim X A E t m c R := fun H I p e => (h H I p e).weak
theorem simPure {a : α} {b : β} {R : St → β → α → Prop} (h : R t b a) : Sim X A E t (Pure.pure a) (ret b) R := fun H I p e => by cases e; exact wpAny_pure (Sat.here ⟨I, h⟩)
theorem simRet {m : Sem α} {b : β} {R : St → β → α → Prop} (h : ∀ Q : α → Shared → Prop, (∀ a tk, R ⟨{ t.s with toks := tk }, t.α, t.W⟩ b a → Q a { t.s with toks := tk }) → Wp X A m Q t.s) : Sim X A E t m (ret b) R := fun H I p e => by
  cases e
  exact h _ fun a tk r => ⟨_, rfl, (I.toks tk).2.no, (I.toks tk).1, r⟩
theorem simPush {m : Sem α} {b : β} {R : St → β → α → Prop} {a : α} {o : Obj} {tk : Nat} (r : Inv X t H → R ⟨{ t.s with heap := t.s.heap.push o, toks := tk }, t.α, t.W⟩ b a) (h : QQ E t (fun u a => Inv X u H ∧ R u b a) a { t.s with heap := t.s.heap.push o, toks := tk } → Wp X A m (QQ E t fun u a => Inv X u H ∧ R u b a) t.s) : SimH X A E t H m (ret b H) R := fun I p e => by
  cases e
  exact h ⟨_, rfl, (I.push o tk).2.no, (I.push o tk).1, r I⟩
theorem simO {m : Sem α} {o : Option γ} {d : γ → M β} {R : St → β → α → Prop} (h : ∀ b, o = some b → Sim X A E t m (d b) R) : Sim X A E t m (oB o d) R := by
  cases o with
  | none => exact fun z' z' z' e => by cases e
  | some b => exact h b rfl
theorem simHp {m : Sem α} {f : Hp → Option γ} {d : γ → M β} {R : St → β → α → Prop} (h : ∀ H b, Inv X t H → f H = some b → SimH X A E t H m (d b H) R) : Sim X A E t m (hB f d) R := fun H I p e => by
  unfold Mine.hB at e
  cases hf : f H with
  | none => rw [hf] at e; cases e
  | some b => rw [hf] at e; exact h H b I hf I p e
theorem simOr {m : Sem α} {c d : M β} {R : St → β → α → Prop} (h : Sim X A E t m c R) (g : Sim X A E t m d R) : Sim X A E t m (orM c d) R := fun H I p e => by
  unfold Mine.orM at e
  cases hc : c H with
  | none => rw [hc] at e; exact g H I p e
  | some q => rw [hc] at e; exact h H I p (hc.trans e)
theorem simGd {m : Sem α} {q : Prop} [Decidable q] {c : M β} {R : St → β → α → Prop} (h : q → Sim X A E t m c R) : Sim X A E t m (gd q c) R := fun H I p e => by
  unfold Mine.gd at e
  split at e
  · rename_i hq; exact h hq H I p e
  · cases e
theorem simhGd {m : Sem α} {q : Prop} [Decidable q] {c : M β} {R : St → β → α → Prop} (h : q → SimH X A E t H m (c H) R) : SimH X A E t H m (Mine.gd q c H) R := fun I p e => by
  unfold Mine.gd at e
  split at e
  · rename_i hq; exact h hq I p e
  · cases e
theorem simhO {m : Sem α} {o : Option γ} {d : γ → M β} {R : St → β → α → Prop} (h : ∀ b, o = some b → SimH X A E t H m (d b H) R) : SimH X A E t H m (Mine.oB o d H) R := by
  cases o with
  | none => exact fun z' z' e => by cases e
  | some b => exact h b rfl
theorem simhHp {m : Sem α} {f : Hp → Option γ} {d : γ → M β} {R : St → β → α → Prop} (h : ∀ b, f H = some b → SimH X A E t H m (d b H) R) : SimH X A E t H m (Mine.hB f d H) R := fun I p e => by
  unfold Mine.hB at e
  cases hf : f H with
  | none => rw [hf] at e; cases e
  | some b => rw [hf] at e; exact h b hf I p e
theorem simFail {m : Sem α} {R : St → β → α → Prop} : Sim X A E t m failM R := fun z' z' z' e => by cases e
theorem simB {m1 m2 : Sem α} {c d : M β} {R : St → β → α → Prop} {b b' : Bool} (hb : b' = b) (h : Sim X A E t m1 c R) (g : Sim X A E t m2 d R) : Sim X A E t (if b' = true then m1 else m2) (bM b c d) R := by
  subst hb
  cases b'
  · exact g
  · exact h
theorem Sim.stand {m : Sem α} {c : M β} {R : St → β → α → Prop} {p : Pos} (h : Sim X A E t m c R) : Sim X A E t (standAt p >>= fun z' => m) c R := fun H I p e => wpAny_bind (wpAny_standAt (h H I p e))
theorem Sim.hold {m : Sem α} {c : M β} {R : St → β → α → Prop} {vs : List Value} (h : Sim X A E t m c R) : Sim X A E t (holding vs m) c R := fun H I p e => wpAny_holding (h H I p e)
theorem Sim.operate {m : Sem Value} {c : M β} {R : St → β → Value → Prop} {vs : List Value} (h : Sim X A E t m c R) : Sim X A E t (PySem.operate vs m) c R := fun H I p e => wpAny_operating (h H I p e)
end
end

section

theorem intO_eq {v : V} {i : Int} (e : intO v = some i) : v = .int i := by cases v <;> cases e; rfl
theorem strO_eq {v : V} {s : List Nat} (e : strO v = some s) : v = .str s := by cases v <;> cases e; rfl
theorem tupO_eq {v : V} {s : List V} (e : tupO v = some s) : v = .tup s := by cases v <;> cases e; rfl
theorem noneO_eq {v : V} {u : Unit} (e : noneO v = some u) : v = .none := by cases v <;> cases e; rfl
theorem refO_eq {v : V} {i : Nat} (e : refO v = some i) : v = .ref i := by cases v <;> cases e; rfl
theorem dictO_eq {v : V} {d : List (List Nat) × List V} (e : dictO v = some d) : v = .dict d.1 d.2 := by cases v <;> cases e; rfl
theorem objO_eq {v : V} {d : Nat × List V} (e : objO v = some d) : v = .obj d.1 d.2 := by cases v <;> cases e; rfl
theorem listO_eq {o : O} {s : List V} (e : listO o = some s) : o = .list s := by cases o <;> cases e; rfl
theorem instO_eq {o : O} {s : Nat × List V} (e : instO o = some s) : o = .inst s.1 s.2 := by cases o <;> cases e; rfl
theorem chr_str : ∀ {v : V} {c : Nat}, chrO v = some c → strO v = some [c]
  | .str [a], c, e => by cases e; rfl

theorem lst_eq {v : V} {H : Hp} {p : Nat × List V} (e : lst v H = some p) : v = .ref p.1 ∧ H[p.1]? = some (.list p.2) := by
  unfold lst at e
  obtain ⟨i, hi, e⟩ := Option.bind_eq_some_iff.mp e
  obtain ⟨vs, e2, rfl⟩ := Option.map_eq_some_iff.mp e
  obtain ⟨o, ho, e3⟩ := Option.bind_eq_some_iff.mp e2
  exact ⟨refO_eq hi, by rw [ho, listO_eq e3]⟩
theorem ins_eq {v : V} {H : Hp} {p : Nat × Nat × List V} (e : ins v H = some p) : v = .ref p.1 ∧ H[p.1]? = some (.inst p.2.1 p.2.2) := by
  unfold ins at e
  obtain ⟨i, hi, e⟩ := Option.bind_eq_some_iff.mp e
  obtain ⟨vs, e2, rfl⟩ := Option.map_eq_some_iff.mp e
  obtain ⟨o, ho, e3⟩ := Option.bind_eq_some_iff.mp e2
  exact ⟨refO_eq hi, by rw [ho, instO_eq e3]⟩

section
variable {P : Params} {t : St} {v : V} {x : Value}
theorem int_of {i : Int} (r : VR P t v x) (e : intO v = some i) : ∃ k, x = .int i k := by rw [intO_eq e] at r; exact r
theorem str_of {s : List Nat} (r : VR P t v x) (e : strO v = some s) : StrV s ∧ ∃ k, x = .str (toStr s) k := by rw [strO_eq e] at r; exact r
theorem chr_of {c : Nat} (r : VR P t v x) (e : chrO v = some c) : c < 1114112 ∧ ∃ k, x = .str (toStr [c]) k :=
  let ⟨a, b⟩ := str_of r (chr_str e); ⟨a.2 c List.mem_cons_self, b⟩
theorem tup_of {s : List V} (r : VR P t v x) (e : tupO v = some s) : s.length ≤ SZ ∧ ∃ a xs, x = .ref a ∧ ¬ t.W a ∧ t.s.heap.IsTuple a (List.toArray xs) ∧ VRs P t s xs := by rw [tupO_eq e] at r; exact r
theorem none_of {u : Unit} (r : VR P t v x) (e : noneO v = some u) : x = .none := by rw [noneO_eq e] at r; exact r
theorem dict_of {d : List (List Nat) × List V} (r : VR P t v x) (e : dictO v = some d) : VR P t (.dict d.1 d.2) x := by rw [dictO_eq e] at r; exact r
theorem obj_of {d : Nat × List V} (r : VR P t v x) (e : objO v = some d) : VR P t (.obj d.1 d.2) x := by rw [objO_eq e] at r; exact r
end

section
variable {X : Cf} {A : Around} {E : Addr → Prop} {t : St} {H : Hp} {v : V} {x : Value}

theorem lst_of (I : Inv X t H) (r : VR X.w.params t v x) {p : Nat × List V} (e : lst v H = some p) :
    ∃ a xs, x = .ref a ∧ t.α[p.1]? = some (a, a) ∧ t.s.heap.PlainList a (List.toArray xs) ∧ VRs X.w.params t p.2 xs ∧ p.2.length ≤ SZ := by
  obtain ⟨e1, e2⟩ := lst_eq e
  rw [e1] at r
  obtain ⟨q, hq, rfl⟩ := r
  obtain ⟨q', hq', hz, h2, xs, hl, hv⟩ := I.objs _ _ e2
  rw [hq] at hq'; cases hq'
  obtain ⟨a, b⟩ := q
  cases h2
  exact ⟨a, xs, rfl, hq, hl, hv, hz⟩
theorem ins_of (I : Inv X t H) (r : VR X.w.params t v x) {p : Nat × Nat × List V} (e : ins v H = some p) :
    ∃ q, x = .ref q.1 ∧ t.α[p.1]? = some q ∧ OR X.w.params t (.inst p.2.1 p.2.2) q := by
  obtain ⟨e1, e2⟩ := ins_eq e
  rw [e1] at r
  obtain ⟨q, hq, rfl⟩ := r
  obtain ⟨q', hq', h⟩ := I.objs _ _ e2
  rw [hq] at hq'; cases hq'
  exact ⟨q, rfl, hq, h⟩

theorem size_small {n : Nat} (h : n ≤ SZ) : (n : Int) < 2 ^ 63 := by have : SZ = 100000 := rfl; omega
theorem size_line {n : Nat} (h : n ≤ SZ) : n ≤ sizeLine := by have : SZ = 100000 := rfl; rw [sizeLine_eq]; omega

abbrev VRl (X : Cf) (t : St) (v : V) (x : Value) : Prop := VR X.w.params t v x

theorem truthy_sim (r : VRl X t v x) : Sim X A E t (PySem.truthy x) (truthyM v) (fun z' b a => a = b) := by
  refine simHp fun H b I e => fun z' p q => ?_
  cases q
  have fin : ∀ tk, QQ E t (fun u a => Inv X u H ∧ a = b) b { t.s with toks := tk } := fun tk => ⟨⟨{ t.s with toks := tk }, t.α, t.W⟩, rfl, (I.toks tk).2.no, (I.toks tk).1, rfl⟩
  cases v with
  | none => cases r; cases e; exact fun z' z' z' => fin t.s.toks
  | bool c => cases r; cases e; exact wpAny_truthy_bool (fin t.s.toks)
  | int i => obtain ⟨k, rfl⟩ := r; cases e; exact truthy_int (fin t.s.toks)
  | str l =>
    obtain ⟨hz, k, rfl⟩ := r
    cases e
    refine P.truthy_str (by rw [toStr_length]; have := size_small hz.1; omega) ?_
    have : (((toStr l).length : Int) != 0) = !l.isEmpty := by
      rw [toStr_length]
      cases l with
      | nil => rfl
      | cons _ _ => rfl
    rw [this]
    exact fin _
  | ref i =>
    obtain ⟨vs, e2, rfl⟩ := Option.map_eq_some_iff.mp e
    obtain ⟨a, xs, rfl, hp, hl, hv, hz⟩ := lst_of (p := (i, vs)) I r (by show ((H[i]?.bind listO).map fun vs => (i, vs)) = _; rw [e2]; rfl)
    have hlen := hv.length
    refine wpAny_truthy_list hl.isList (by simpa [← hlen] using size_small hz) ?_
    have : (!(List.toArray xs).isEmpty) = !vs.isEmpty := by
      cases vs <;> cases xs <;> first | rfl | cases hlen
    rw [this]
    exact fin _
  | undef => cases e
  | tup _ => cases e
  | dict _ _ => cases e
  | rng _ _ => cases e
  | obj _ _ => cases e

theorem vr_int {P : Params} {t : St} (i : Int) (k : Tok) : VR P t (.int i) (.int i k) := ⟨k, rfl⟩
theorem vr_str {P : Params} {t : St} {l : List Nat} (hz : StrV l) (k : Tok) : VR P t (.str l) (.str (toStr l) k) := ⟨hz, k, rfl⟩
theorem StrV.append {a b : List Nat} (h : StrV a) (k : StrV b) (hz : a.length + b.length ≤ SZ) : StrV (a ++ b) :=
  ⟨by rw [List.length_append]; exact hz, fun c hc => (List.mem_append.mp hc).elim (h.2 c) (k.2 c)⟩
theorem toStr_append (a b : List Nat) : toStr a ++ toStr b = toStr (a ++ b) := by
  show Str.append _ _ = _
  simp [Str.append, toStr]

theorem QQ.newList (I : Inv X t H) {vs : List V} {xs : List Value} {tk : Nat} (r : VRs X.w.params t vs xs) (hz : vs.length ≤ SZ) :
    QQ E t (fun u a => Inv X u (H ++ [.list vs]) ∧ VRl X u (.ref H.length) a) (.ref t.s.heap.objs.size) { t.s with heap := t.s.heap.push { cls := .type "list", data := .seq xs.toArray }, toks := tk } := by
  have hlt : t.s.heap.objs.size < (t.s.heap.push { cls := .type "list", data := .seq xs.toArray }).objs.size := by rw [Heap.size_push]; exact Nat.lt_succ_self _
  obtain ⟨I1, e1⟩ := I.watch (h' := t.s.heap.push { cls := .type "list", data := .seq xs.toArray }) tk (fun b x e => Heap.get?_push_of_some _ e) (Nat.le_refl _) hlt
  have no : ¬ Foot t.α t.s.heap.objs.size := fun z => Nat.lt_irrefl _ (I.wlt _ (I.footW z))
  have I2 := I1.adopt (p := (t.s.heap.objs.size, t.s.heap.objs.size)) (o := .list vs) (.inr rfl) (.inr rfl) no no
    ⟨hz, rfl, xs, ⟨_, Heap.get?_push_size _ rfl⟩, VRs.mv Mv.grow _ _ (e1.vrs (X := X) r)⟩
  refine ⟨_, rfl, e1.no.grow (p := (t.s.heap.objs.size, t.s.heap.objs.size)) ⟨Nat.le_refl _, Nat.le_refl _⟩, I2, (t.s.heap.objs.size, t.s.heap.objs.size), ?_, rfl⟩
  show (t.α ++ [(t.s.heap.objs.size, t.s.heap.objs.size)])[H.length]? = _
  rw [← I.len, List.getElem?_concat_length]

theorem newL_sim {m : Sem Value} {vs : List V} {xs : List Value} (r : VRs X.w.params t vs xs) (hz : vs.length ≤ SZ)
    (h : ∀ Q : Value → Shared → Prop, Q (.ref t.s.heap.objs.size) { t.s with heap := t.s.heap.push { cls := .type "list", data := .seq xs.toArray }, toks := t.s.toks } → Wp X A m Q t.s) : SimH X A E t H m (newL vs H) (VRl X) := fun I p e => by
  cases e
  exact h _ (QQ.newList I r hz)

theorem smallI_lt {i : Int} (h : smallI i = true) : -SMALL < i ∧ i < SMALL := by
  have e : SMALL = 4611686018427387904 := by decide
  cases i with
  | ofNat n =>
    have h : n ≤ 4000000000000000000 := Nat.le_of_ble_eq_true h
    rw [e, Int.ofNat_eq_natCast]; omega
  | negSucc n =>
    have h : n ≤ 4000000000000000000 := Nat.le_of_ble_eq_true h
    rw [e, Int.negSucc_eq]; omega
theorem chrI_lt {i : Int} (h : chrI i = true) : 0 ≤ i ∧ i < 1114112 := by
  cases i with
  | ofNat n =>
    have h : n ≤ 1114111 := Nat.le_of_ble_eq_true h
    rw [Int.ofNat_eq_natCast]; omega
  | negSucc n => cases h
theorem small2 {i j : Int} (h : (smallI i && smallI j) = true) : -SMALL < i ∧ i < SMALL ∧ -SMALL < j ∧ j < SMALL := by
  rw [Bool.and_eq_true] at h
  exact ⟨(smallI_lt h.1).1, (smallI_lt h.1).2, smallI_lt h.2⟩
theorem bits_small {a : Int} (h1 : -SMALL < a) (h2 : a < SMALL) : Builtin.Int.intBits a ≤ 64 := by
  have e : SMALL = 4611686018427387904 := by decide
  unfold Builtin.Int.intBits
  split
  · omega
  · rename_i h
    have h0 : a.natAbs ≠ 0 := by intro z; apply h; simp; omega
    have : a.natAbs.log2 < 63 := (Nat.log2_lt h0).mpr (by omega)
    omega
theorem log_small {b : Int} (h1 : 0 < b) (h2 : b < SMALL) : b.natAbs.log2 < 63 := by
  have e : SMALL = 4611686018427387904 := by decide
  exact (Nat.log2_lt (by omega)).mpr (by omega)

variable {a b : V} {y : Value}
theorem int_sim {m : Sem Value} {f : Int → Int → M V} (ra : VRl X t a x) (rb : VRl X t b y) (h : ∀ i j k l, x = .int i k → y = .int j l → Sim X A E t m (f i j) (VRl X)) : Sim X A E t m (intM a b f) (VRl X) :=
  simO fun i hi => simO fun j hj => let ⟨k, hk⟩ := int_of ra hi; let ⟨l, hl⟩ := int_of rb hj; h i j k l hk hl

theorem add_sim (ra : VRl X t a x) (rb : VRl X t b y) : Sim X A E t (binaryOp .Add x y) (addV a b) (VRl X) := by
  refine simOr (int_sim ra rb fun i j k l hx hy => ?_) (simOr (simO fun s hs => simO fun s' hs' => simGd fun hz => ?_) (simOr (simO fun s hs => simO fun s' hs' => simGd fun hz => ?_) (simHp fun H p I hp => simhHp fun q hq => simhGd fun hz => ?_)))
  · subst hx hy
    exact simRet fun Q h => PyProof.Rows.add_int (h _ _ (vr_int _ _))
  · obtain ⟨z1, k, rfl⟩ := str_of ra hs
    obtain ⟨z2, l, rfl⟩ := str_of rb hs'
    refine simRet fun Q h => SBL.add (fun t' k z' => ?_) (by rw [toStr_length, toStr_length]; exact size_line hz)
    rw [toStr_append]
    exact h _ _ (vr_str (z1.append z2 hz) t')
  · obtain ⟨_, l, xs, rfl, wa, ha, va⟩ := tup_of ra hs
    obtain ⟨_, l2, ys, rfl, wb, hb, vb⟩ := tup_of rb hs'
    obtain ⟨⟨cls, dd, data, sl⟩, ho, hc, n, hd⟩ := id ha
    obtain ⟨⟨cls2, dd2, data2, sl2⟩, ho2, hc2, n2, hd2⟩ := id hb
    simp only at hc hd hc2 hd2
    subst hc hd hc2 hd2
    have l1 := va.length
    have l2' := vb.length
    intro H I p e
    cases e
    by_cases hv : xs = []
    · subst hv
      have hs0 : s = [] := List.eq_nil_of_length_eq_zero l1
      subst hs0
      exact concat_meets ⟨_, ho, rfl⟩ ⟨_, ho2, rfl⟩ noFill_tuple_add seq_tuple_add PySem.F.slot_tuple_add PySem.F.entry_tuple_add (PySem.F.args_tuple_add_2 _ _)
        (tuple_addW0 l l2 _ ys.toArray n n2 dd dd2 sl sl2 rfl) ⟨ho, ho2, Sat.here ⟨I, by simpa using hz, l2, ys, rfl, wb, hb, vb⟩⟩
    · by_cases hw : ys = []
      · subst hw
        have hs0 : s' = [] := List.eq_nil_of_length_eq_zero l2'
        subst hs0
        exact concat_meets ⟨_, ho, rfl⟩ ⟨_, ho2, rfl⟩ noFill_tuple_add seq_tuple_add PySem.F.slot_tuple_add PySem.F.entry_tuple_add (PySem.F.args_tuple_add_2 _ _)
          (tuple_addW1 l l2 xs.toArray _ n n2 dd dd2 sl sl2 (by simpa using hv) rfl) ⟨ho, ho2, Sat.here ⟨I, by simpa using hz, l, xs, rfl, wa, ha, by simpa using va⟩⟩
      · refine concat_meets ⟨_, ho, rfl⟩ ⟨_, ho2, rfl⟩ noFill_tuple_add seq_tuple_add PySem.F.slot_tuple_add PySem.F.entry_tuple_add (PySem.F.args_tuple_add_2 _ _)
          (tuple_addW2 l l2 xs.toArray ys.toArray n n2 dd dd2 sl sl2 (by simpa using hv) (by simpa using hw) (by rw [List.size_toArray, List.size_toArray, ← l1, ← l2']; exact size_line hz)) ⟨ho, ho2, ?_⟩
        have hcat : xs.toArray ++ ys.toArray = (xs ++ ys).toArray := by simp
        rw [hcat]
        exact ⟨_, rfl, (I.push _ t.s.toks).2.no, (I.push _ t.s.toks).1, by simpa using hz, _, _, rfl, fun z => Nat.lt_irrefl _ (I.wlt _ z), ⟨_, Heap.get?_push_size _ rfl, rfl, _, rfl⟩, (I.push _ t.s.toks).2.vrs (X := X) (va.append vb)⟩
  · obtain ⟨l, xs, rfl, _, hl, hv, hz1⟩ := lst_of I ra hp
    obtain ⟨l2, ys, rfl, _, hl2, hv2, hz2⟩ := lst_of I rb hq
    obtain ⟨n, ho⟩ := hl
    obtain ⟨n2, ho2⟩ := hl2
    have hcat : xs.toArray ++ ys.toArray = (xs ++ ys).toArray := by simp
    refine newL_sim (hv.append hv2) (by rw [List.length_append]; exact hz) fun Q h => ?_
    refine concat_meets ⟨_, ho, rfl⟩ ⟨_, ho2, rfl⟩ noFill_list_add seq_list_add PySem.F.slot_list_add PySem.F.entry_list_add (PySem.F.args_list_add_2 _ _) (list_addW l l2 xs.toArray ys.toArray n n2 none none #[] #[] (by rw [List.size_toArray, List.size_toArray, ← hv.length, ← hv2.length]; exact size_line hz)) ⟨ho, ho2, ?_⟩
    rw [hcat]; exact h

theorem bin_sim {op : Operator} (ra : VRl X t a x) (rb : VRl X t b y) : Sim X A E t (binaryOp op x y) (binV op a b) (VRl X) := by
  cases op <;> first | exact add_sim ra rb | exact simFail | skip
  · exact int_sim ra rb fun i j k l hx hy => by subst hx hy; exact simRet fun Q h => PyProof.Rows.sub_int (h _ _ (vr_int _ _))
  · exact int_sim ra rb fun i j k l hx hy => simGd fun hz => by subst hx hy; exact simRet fun Q h => mul_int (h _ _ (vr_int _ _)) (.of_left (bits_small (small2 hz).1 (small2 hz).2.1))
  · refine int_sim ra rb fun i j k l hx hy => simGd fun hz => ?_
    subst hx hy
    refine simRet fun Q h => PyProof.Rows.mod_int (by omega) ?_
    rw [Int.fmod_eq_emod_of_nonneg _ (by omega)]
    exact h _ _ (vr_int _ _)
  · refine int_sim ra rb fun i j k l hx hy => simGd fun hz => ?_
    subst hx hy
    refine simRet fun Q h => floordiv_int (by omega) ?_ (.inl (PyProof.noPylong_of_log2 (Nat.lt_trans (log_small hz.1 (smallI_lt hz.2).2) (by decide))))
    rw [Int.fdiv_eq_ediv_of_nonneg _ (by omega)]
    exact h _ _ (vr_int _ _)

theorem aug_sim {op : Operator} (ra : VRl X t a x) (rb : VRl X t b y) : Sim X A E t (inplaceOp op x y) (augV op a b) (VRl X) := by
  cases op <;> first | exact simFail | skip
  · exact int_sim ra rb fun i j k l hx hy => by subst hx hy; exact simRet fun Q h => PyProof.Rows.iadd_int (h _ _ (vr_int _ _))
  · exact int_sim ra rb fun i j k l hx hy => by subst hx hy; exact simRet fun Q h => isub_int (h _ _ (vr_int _ _))
end
end

section

theorem oO_some {β : Type} {a b : Option β} {r : β} (e : oO a b = some r) : a = some r ∨ b = some r := by
  cases a with
  | none => exact .inr e
  | some x => exact .inl e
theorem on2_some {β γ δ : Type} {a : Option β} {b : Option γ} {f : β → γ → Option δ} {r : δ} (e : on2 a b f = some r) : ∃ x y, a = some x ∧ b = some y ∧ f x y = some r := by
  obtain ⟨x, h1, e⟩ := Option.bind_eq_some_iff.mp e
  obtain ⟨y, h2, e⟩ := Option.bind_eq_some_iff.mp e
  exact ⟨x, y, h1, h2, e⟩
theorem sure_some {b r : Bool} (e : sure b = some r) : b = true ∧ r = true := by cases b <;> cases e; exact ⟨rfl, rfl⟩
theorem getD_true {o : Option Bool} (e : o.getD false = true) : o = some true := by
  cases o with
  | none => cases e
  | some b => exact congrArg some e
theorem boolO_eq {v : V} {b : Bool} (e : boolO v = some b) : v = .bool b := by cases v <;> cases e; rfl

theorem strOk_of {l : List Nat} (h : StrV l) : PyData.strOk (toStr l) = true := by
  show (toStr l).cps.all _ = true
  simp only [toStr, List.all_toArray, List.all_eq_true, decide_eq_true_eq]
  exact h.2
theorem toStr_beq (a b : List Nat) : (toStr a == toStr b) = (a == b) := by
  by_cases h : a = b
  · subst h; simp
  · rw [beq_eq_false_iff_ne.mpr h, beq_eq_false_iff_ne.mpr fun e => h (toStr_inj e)]

def Rd (h : Heap) (x : Value) (d : PyData) (n : Nat) : Prop := Reads h x d [] ∧ d.canLay0 = true ∧ d.depth ≤ n
def Rds (h : Heap) (x : List Value) (d : List PyData) (n : Nat) : Prop := ReadsAll h x d [] ∧ PyData.canLayAll0 d = true ∧ PyData.depthAll d ≤ n

section
variable {P : Params} {t : St} {u v : V} {x y : Value} {b : Bool}
theorem rd_int {h : Heap} {i : Int} {k : Tok} : Rd h (.int i k) (.int i) 0 := ⟨.int _ _, rfl, Nat.le_refl _⟩
theorem rd_str {h : Heap} {l : List Nat} {k : Tok} (z : StrV l) : Rd h (.str (toStr l) k) (.str (toStr l)) 0 := ⟨.str _ _, strOk_of z, Nat.le_refl _⟩
theorem Rds.cons {h : Heap} {xs : List Value} {d : PyData} {ds : List PyData} {n : Nat} (p : Rd h x d n) (q : Rds h xs ds n) : Rds h (x :: xs) (d :: ds) n :=
  ⟨.cons p.1 q.1, by simp only [PyData.canLayAll0, p.2.1, q.2.1, Bool.and_self], by simp only [PyData.depthAll]; exact Nat.max_le.mpr ⟨p.2.2, q.2.2⟩⟩

theorem eqP_reads (ru : VR P t u x) (rv : VR P t v y) (e : eqP u v = some b) : ∃ da db, Rd t.s.heap x da 0 ∧ Rd t.s.heap y db 0 ∧ PyData.eqv da db = b := by
  rcases oO_some e with e | e
  · obtain ⟨i, j, h1, h2, e⟩ := on2_some e
    obtain ⟨_, rfl⟩ := int_of ru h1
    obtain ⟨_, rfl⟩ := int_of rv h2
    cases e
    exact ⟨_, _, rd_int, rd_int, rfl⟩
  rcases oO_some e with e | e
  · obtain ⟨i, j, h1, h2, e⟩ := on2_some e
    obtain ⟨z1, _, rfl⟩ := str_of ru h1
    obtain ⟨z2, _, rfl⟩ := str_of rv h2
    cases e
    exact ⟨_, _, rd_str z1, rd_str z2, toStr_beq _ _⟩
  · obtain ⟨i, j, h1, h2, e⟩ := on2_some e
    rw [boolO_eq h1] at ru
    rw [boolO_eq h2] at rv
    cases ru; cases rv; cases e
    exact ⟨_, _, ⟨.bool _, rfl, Nat.le_refl _⟩, ⟨.bool _, rfl, Nat.le_refl _⟩, rfl⟩

theorem eqs_reads {n : Nat} {f : V → V → Option Bool} (h1 : ∀ u v x y, VR P t u x → VR P t v y → f u v = some true → ∃ da db, Rd t.s.heap x da n ∧ Rd t.s.heap y db n ∧ PyData.eqv da db = true) (g : List V → List V → Bool)
    (g0 : ∀ u us, g [] (u :: us) = false) (g1 : ∀ u us, g (u :: us) [] = false) (g2 : ∀ u us v vs, g (u :: us) (v :: vs) = ((f u v).getD false && g us vs)) :
    ∀ {us vs : List V} {xs ys : List Value}, VRs P t us xs → VRs P t vs ys → g us vs = true → ∃ das dbs, Rds t.s.heap xs das n ∧ Rds t.s.heap ys dbs n ∧ PyData.eqvAll das dbs = true
  | [], [], [], [], _, _, _ => ⟨[], [], ⟨.nil, rfl, Nat.zero_le _⟩, ⟨.nil, rfl, Nat.zero_le _⟩, rfl⟩
  | u :: us, v :: vs, x :: xs, y :: ys, ru, rv, e => by
    rw [g2, Bool.and_eq_true] at e
    obtain ⟨da, db, r1, r2, q⟩ := h1 u v x y ru.1 rv.1 (getD_true e.1)
    obtain ⟨das, dbs, s1, s2, q2⟩ := eqs_reads h1 g g0 g1 g2 ru.2 rv.2 e.2
    exact ⟨da :: das, db :: dbs, Rds.cons r1 s1, Rds.cons r2 s2, by simp only [PyData.eqvAll, q, q2, Bool.and_self]⟩
  | [], v :: vs, _, _, _, _, e => by rw [g0] at e; cases e
  | u :: us, [], _, _, _, _, e => by rw [g1] at e; cases e
  | [], [], [], _ :: _, _, r, _ => r.elim
  | [], [], _ :: _, _, r, _, _ => r.elim
  | _ :: _, _ :: _, [], _, r, _, _ => r.elim
  | _ :: _, _ :: _, _ :: _, [], _, r, _ => r.elim

theorem eqV_reads (ru : VR P t u x) (rv : VR P t v y) (e : eqV u v = some b) : ∃ da db, Rd t.s.heap x da 1 ∧ Rd t.s.heap y db 1 ∧ PyData.eqv da db = b := by
  rcases oO_some e with e | e
  · obtain ⟨i, j, h1, h2, e⟩ := on2_some e
    obtain ⟨_, a, xs, rfl, _, ⟨o, ho, hc, n, hd⟩, hv⟩ := tup_of ru h1
    obtain ⟨_, a2, ys, rfl, _, ⟨o2, ho2, hc2, n2, hd2⟩, hv2⟩ := tup_of rv h2
    obtain ⟨e', rfl⟩ := sure_some e
    obtain ⟨das, dbs, s1, s2, q⟩ := eqs_reads (fun u v x y p q e => eqP_reads p q e) eqPs (fun z' z' => rfl) (fun z' z' => rfl) (fun z' z' z' z' => rfl) hv hv2 e'
    exact ⟨.tuple das, .tuple dbs, ⟨.tuple ho hc hd (by simpa using s1.1), s1.2.1, Nat.succ_le_succ s1.2.2⟩, ⟨.tuple ho2 hc2 hd2 (by simpa using s2.1), s2.2.1, Nat.succ_le_succ s2.2.2⟩, q⟩
  · obtain ⟨da, db, r1, r2, q⟩ := eqP_reads ru rv e
    exact ⟨da, db, ⟨r1.1, r1.2.1, Nat.le_succ_of_le r1.2.2⟩, ⟨r2.1, r2.2.1, Nat.le_succ_of_le r2.2.2⟩, q⟩
end

section
variable {X : Cf} {A : Around} {E : Addr → Prop} {t : St} {H : Hp} {u v : V} {x y : Value} {b : Bool}

theorem eqH_reads (I : Inv X t H) (ru : VRl X t u x) (rv : VRl X t v y) (e : eqH u v H = some b) : ∃ da db as bs, Reads t.s.heap x da as ∧ Reads t.s.heap y db bs ∧ SeqAt.shaped da = true ∧ SeqAt.shaped db = true ∧ PyData.eqv da db = b := by
  have sh : ∀ {d : PyData}, d.canLay0 = true → d.depth ≤ 2 → SeqAt.shaped d = true := fun a c => by
    unfold SeqAt.shaped
    rw [a, Bool.true_and]
    exact decide_eq_true (Nat.le_trans c (by decide))
  rcases oO_some e with e | e
  · obtain ⟨p, q, h1, h2, e⟩ := on2_some e
    obtain ⟨a, xs, rfl, _, ⟨n, ho⟩, hv, _⟩ := lst_of I ru h1
    obtain ⟨a2, ys, rfl, _, ⟨n2, ho2⟩, hv2, _⟩ := lst_of I rv h2
    obtain ⟨e', rfl⟩ := sure_some e
    obtain ⟨das, dbs, s1, s2, q⟩ := eqs_reads (fun u v x y p q e => eqV_reads p q e) eqVs (fun z' z' => rfl) (fun z' z' => rfl) (fun z' z' z' z' => rfl) hv hv2 e'
    exact ⟨.list das, .list dbs, _, _, .list ho rfl rfl (by simpa using s1.1), .list ho2 rfl rfl (by simpa using s2.1), sh s1.2.1 (Nat.succ_le_succ s1.2.2), sh s2.2.1 (Nat.succ_le_succ s2.2.2), q⟩
  · obtain ⟨da, db, r1, r2, q⟩ := eqV_reads ru rv e
    exact ⟨da, db, [], [], r1.1, r2.1, sh r1.2.1 (Nat.le_succ_of_le r1.2.2), sh r2.2.1 (Nat.le_succ_of_le r2.2.2), q⟩

theorem anyEq_reads {P : Params} (rv : VR P t v y) {db : PyData} (hd : Rd t.s.heap y db 0) : ∀ {us : List V} {xs : List Value} {b : Bool}, VRs P t us xs → anyEq v us = some b → ∃ das, Rds t.s.heap xs das 0 ∧ (das.any fun d => PyData.eqv d db) = b
  | [], [], _, _, e => by cases e; exact ⟨[], ⟨.nil, rfl, Nat.zero_le _⟩, rfl⟩
  | u :: us, x :: xs, b, ru, e => by
    obtain ⟨b1, h1, e⟩ := Option.bind_eq_some_iff.mp e
    obtain ⟨b2, h2, rfl⟩ := Option.map_eq_some_iff.mp e
    obtain ⟨das, s1, q⟩ := anyEq_reads rv hd ru.2 h2
    obtain ⟨da, dc, r1, r2, q'⟩ := eqP_reads ru.1 rv h1
    have : dc = db := by
      have := r2.1
      rcases oO_some h1 with e | e
      · obtain ⟨i, j, _, h2, _⟩ := on2_some e
        obtain ⟨_, rfl⟩ := int_of rv h2
        cases this; cases hd.1; rfl
      rcases oO_some e with e | e
      · obtain ⟨i, j, _, h2, _⟩ := on2_some e
        obtain ⟨_, _, rfl⟩ := str_of rv h2
        cases this; cases hd.1; rfl
      · obtain ⟨i, j, _, h2, _⟩ := on2_some e
        rw [boolO_eq h2] at rv
        cases rv; cases this; cases hd.1; rfl
    subst this
    exact ⟨da :: das, Rds.cons r1 s1, by rw [List.any_cons, q', q]⟩
  | [], _ :: _, _, r, _ => r.elim
  | _ :: _, [], _, r, _ => r.elim
end
end

section

theorem dict_find {P : Params} {t : St} (k : List Nat) : ∀ {ks : List (List Nat)} {vs : List V} {ds : List DictEntry}, KeysR P (ks.map toStr) ds → VRs P t vs (ds.map (·.val)) →
    (lookupD k ks vs = none ∧ ds.find? (fun d => Value.isStrOf (toStr k) d.key) = none) ∨ ∃ v y, lookupD k ks vs = some v ∧ ds.find? (fun d => Value.isStrOf (toStr k) d.key) = some y ∧ VR P t v y.val
  | [], [], [], _, _ => .inl ⟨rfl, rfl⟩
  | x :: ks, v :: vs, d :: ds, hK, hv => by
    obtain ⟨⟨u, hk⟩, _, hK'⟩ := hK
    unfold lookupD
    by_cases hx : x = k
    · subst hx
      refine .inr ⟨v, d, if_pos rfl, ?_, hv.1⟩
      rw [List.find?_cons, hk]; show (match (toStr x == toStr x) with | true => _ | false => _) = _; rw [toStr_beq, beq_self_eq_true]
    · have : Value.isStrOf (toStr k) d.key = false := by
        rw [hk]; show (toStr x == toStr k) = false
        rw [toStr_beq]; exact beq_eq_false_iff_ne.mpr hx
      rw [if_neg hx, List.find?_cons, this]
      exact dict_find k hK' hv.2
  | [], _ :: _, [], _, r => r.elim
  | _ :: _, _, [], r, _ => r.elim
  | [], _, _ :: _, r, _ => r.elim
  | _ :: _, [], _ :: _, _, r => r.elim

theorem keysR_all {P : Params} : ∀ {ks : List Str} {ds : List DictEntry}, KeysR P ks ds → ∀ e ∈ ds, ∃ x t, e.key = .str x t ∧ e.hash = PyData.keyHash P x
  | [], [], _, e, he => nomatch he
  | [], _ :: _, r, _, _ => r.elim
  | _ :: _, [], r, _, _ => r.elim
  | k :: ks, d :: ds, r, e, he => by
    rcases List.mem_cons.mp he with rfl | he
    · obtain ⟨⟨t, h⟩, h2, _⟩ := r; exact ⟨_, t, h, h2⟩
    · exact keysR_all r.2.2 e he

section
variable {X : Cf} {A : Around} {E : Addr → Prop} {t : St} {H : Hp} {u v : V} {x y : Value} {b : Bool}

theorem dict_mapOf {h : Heap} {a : Addr} {ds : List DictEntry} {ep : Nat} {ks : List Str} (hg : h.get? a = some (dictOf ds ep)) (hK : KeysR X.w.params ks ds) :
    h.MapOf (strKind X.prog X.w) a (fun k => findBy Value.isStrOf ds.toArray k) :=
  ⟨_, ds.toArray, ep, hg, ⟨rfl, rfl, rfl⟩, rfl, fun e he => by
    obtain ⟨x, t, e1, e2⟩ := keysR_all hK e (by simpa using he)
    exact ⟨x, by rw [e1]; exact strKind_is X.prog X.w x t, e2⟩, fun z' => rfl⟩

def CmpTo (X : Cf) (A : Around) (t : St) (m : Sem Value) (b : Bool) : Prop := ∀ Q : Value → Shared → Prop, (∀ tk, Q (.bool b) { t.s with toks := tk }) → Wp X A m Q t.s

theorem in_to (hu : A.units + 64 < cLine) (rv : VRl X t v x) (rc : VRl X t u y) (e : inV v u = some b) : CmpTo X A t (compareOp .In x y) b ∧ CmpTo X A t (compareOp .NotIn x y) (!b) := by
  rcases oO_some e with e | e
  · obtain ⟨s, c, h1, h2, e⟩ := on2_some e
    cases e
    obtain ⟨_, _, rfl⟩ := str_of rc h1
    obtain ⟨_, _, rfl⟩ := str_of rv (chr_str h2)
    have q : (!(Builtin.Str.occurrences (toStr s) (toStr [c]) 0 (toStr s).length 1).isEmpty) = s.contains c := by
      have := StrLaws.found_one (toStr s) c
      rw [show (toStr [c]) = (⟨#[c]⟩ : Str) from rfl, this]
      rw [List.contains_eq_mem]; exact decide_eq_decide.mpr (by simp [toStr])
    exact ⟨fun Q h => PySem.P.in_str (by rw [q]; exact h t.s.toks), fun Q h => PySem.P.notIn_str (by rw [q]; exact h t.s.toks)⟩
  rcases oO_some e with e | e
  · obtain ⟨vs, _, h1, h2, e⟩ := on2_some e
    obtain ⟨_, a, xs, rfl, _, ⟨o, ho, hc, n, hd⟩, hv⟩ := tup_of rc h1
    have hr : ∃ db, Rd t.s.heap x db 0 := by
      rcases oO_some h2 with h2 | h2
      · obtain ⟨_, h2, _⟩ := Option.map_eq_some_iff.mp h2
        obtain ⟨z, _, rfl⟩ := str_of rv h2
        exact ⟨_, rd_str z⟩
      · obtain ⟨_, h2, _⟩ := Option.map_eq_some_iff.mp h2
        obtain ⟨_, rfl⟩ := int_of rv h2
        exact ⟨_, rd_int⟩
    obtain ⟨db, hr⟩ := hr
    obtain ⟨das, r1, q⟩ := anyEq_reads rv hr hv e
    exact ⟨fun Q h => SeqAt.in_tuple_reads (.tuple ho hc hd r1.1) hr.1 r1.2.1 hr.2.1 (by have := r1.2.2; have := hr.2.2; simp; omega) (by rw [q]; exact h t.s.toks),
      fun Q h => SeqAt.notIn_tuple_reads (.tuple ho hc hd r1.1) hr.1 r1.2.1 hr.2.1 (by have := r1.2.2; have := hr.2.2; simp; omega) (by rw [q]; exact h t.s.toks)⟩
  · obtain ⟨d, k, h1, h2, e⟩ := on2_some e
    cases e
    obtain ⟨a, ds, ep, rfl, _, hs, hg, hK, hv⟩ := dict_of rc h1
    obtain ⟨z, tk, rfl⟩ := str_of rv h2
    have hm := dict_mapOf (X := X) hg hK
    have q : (findBy Value.isStrOf ds.toArray (toStr k)).isSome = (lookupD k d.1 d.2).isSome := by
      unfold findBy
      rw [List.find?_toArray]
      rcases dict_find k hK hv with ⟨f1, f2⟩ | ⟨v, y, f1, f2, _⟩ <;> rw [f1, f2] <;> rfl
    have hs' : (a == sysModules) = false := beq_eq_false_iff_ne.mpr hs
    exact ⟨fun Q h => wpAny_in_of (strKind_is X.prog X.w _ _) hs' hm (by rw [q]; exact h _), fun Q h => wpAny_notIn_of (strKind_is X.prog X.w _ _) hs' hm (by rw [q]; exact h _)⟩

theorem is_to (rv : VRl X t v x) (e : isNone v = some b) : CmpTo X A t (compareOp .Is x .none) b ∧ CmpTo X A t (compareOp .IsNot x .none) (!b) := by
  rcases oO_some e with e | e
  · obtain ⟨_, h, rfl⟩ := Option.map_eq_some_iff.mp e
    cases none_of rv h
    exact ⟨fun Q h => wpAny_is_plain rfl (h t.s.toks), fun Q h => wpAny_isNot_plain rfl (h t.s.toks)⟩
  rcases oO_some e with e | e
  · obtain ⟨_, h, rfl⟩ := Option.map_eq_some_iff.mp e
    obtain ⟨a, _, _, _, rfl, _⟩ := obj_of rv h
    exact ⟨fun Q h => wpAny_is_plain rfl (h t.s.toks), fun Q h => wpAny_isNot_plain rfl (h t.s.toks)⟩
  · obtain ⟨_, h, rfl⟩ := Option.map_eq_some_iff.mp e
    obtain ⟨_, _, rfl⟩ := str_of rv h
    exact ⟨fun Q h => wpAny_is_plain rfl (h t.s.toks), fun Q h => wpAny_isNot_plain rfl (h t.s.toks)⟩

structure Room (A : Around) (n : Nat) : Prop where
  handled : A.handled = none
  depth : A.depth + 3 * n ≤ 900
  units : A.units + 30 * n ≤ 8000

theorem cmp_to {n : Nat} {op : CmpOp} (R : Room A n) (I : Inv X t H) (ru : VRl X t u x) (rv : VRl X t v y) (e : cmpB op u v H = some b) : CmpTo X A t (compareOp op x y) b := by
  have hu : A.units + 64 < cLine := by have := R.units; show A.units + 64 < 9900; omega
  have i2 : ∀ {f : Int → Int → Option Bool}, int2 u v f = some b → ∃ i j k l, x = .int i k ∧ y = .int j l ∧ f i j = some b := fun e => by
    obtain ⟨i, h1, e⟩ := Option.bind_eq_some_iff.mp e
    obtain ⟨j, h2, e⟩ := Option.bind_eq_some_iff.mp e
    obtain ⟨k, hk⟩ := int_of ru h1
    obtain ⟨l, hl⟩ := int_of rv h2
    exact ⟨i, j, k, l, hk, hl, e⟩
  cases op
  · obtain ⟨da, db, as, bs, r1, r2, s1, s2, q⟩ := eqH_reads I ru rv e
    exact fun Q h => eq_dataH r1 r2 s1 s2 hu (by rw [q]; exact h t.s.toks)
  · obtain ⟨c, e', rfl⟩ := Option.map_eq_some_iff.mp e
    obtain ⟨da, db, as, bs, r1, r2, s1, s2, q⟩ := eqH_reads I ru rv e'
    exact fun Q h => ne_dataH r1 r2 s1 s2 hu (by rw [q]; exact h t.s.toks)
  · obtain ⟨i, j, k, l, rfl, rfl, e⟩ := i2 e
    cases e
    exact fun Q h => PyProof.Rows.lt_int (h t.s.toks)
  · rcases oO_some e with e | e
    · obtain ⟨c, d, h1, h2, e⟩ := on2_some e
      cases e
      obtain ⟨_, _, rfl⟩ := str_of ru (chr_str h1)
      obtain ⟨_, _, rfl⟩ := str_of rv (chr_str h2)
      have q : (!(decide ((toStr [d]).cps.toList < (toStr [c]).cps.toList))) = decide (c ≤ d) := by
        show (!(decide ([d] < [c]))) = decide (c ≤ d)
        by_cases h : c ≤ d
        · have : ¬ d < c := Nat.not_lt.mpr h
          simp [h, List.cons_lt_cons_iff, this]
        · have : d < c := Nat.lt_of_not_le h
          simp [h, List.cons_lt_cons_iff, this]
      exact fun Q h => PySem.P.le_str (by rw [q]; exact h t.s.toks)
    · obtain ⟨i, j, k, l, rfl, rfl, e⟩ := i2 e
      cases e
      exact fun Q h => le_int (h t.s.toks)
  · obtain ⟨i, j, k, l, rfl, rfl, e⟩ := i2 e
    cases e
    exact fun Q h => PyProof.Rows.gt_int (h t.s.toks)
  · obtain ⟨i, j, k, l, rfl, rfl, e⟩ := i2 e
    cases e
    exact fun Q h => ge_int (h t.s.toks)
  · obtain ⟨_, h, e⟩ := Option.bind_eq_some_iff.mp e
    cases none_of rv h
    exact (is_to ru e).1
  · obtain ⟨_, h, e⟩ := Option.bind_eq_some_iff.mp e
    cases none_of rv h
    obtain ⟨c, e', rfl⟩ := Option.map_eq_some_iff.mp e
    exact (is_to ru e').2
  · exact (in_to hu ru rv e).1
  · obtain ⟨c, e', rfl⟩ := Option.map_eq_some_iff.mp e
    exact (in_to hu ru rv e').2

theorem cmp_sim {n : Nat} {op : CmpOp} (R : Room A n) (ru : VRl X t u x) (rv : VRl X t v y) : Sim X A E t (compareOp op x y) (cmpV op u v) (fun w b a => VRl X w b a ∧ ∃ c, b = .bool c) :=
  simHp fun H b I e z' p q => by
    cases q
    exact cmp_to R I ru rv e _ fun tk => ⟨_, rfl, (I.toks tk).2.no, (I.toks tk).1, rfl, b, rfl⟩
end
end

section

section
variable {β γ : Type} {H : Hp} {p : β × Hp}
theorem orM_some {c d : M β} (e : orM c d H = some p) : c H = some p ∨ d H = some p := by
  unfold orM at e
  cases hc : c H with
  | none => rw [hc] at e; exact .inr e
  | some q => rw [hc] at e; exact .inl e
theorem oB_some {o : Option γ} {d : γ → M β} (e : oB o d H = some p) : ∃ b, o = some b ∧ d b H = some p := by
  cases o with
  | none => cases e
  | some b => exact ⟨b, rfl, e⟩
theorem hB_some {f : Hp → Option γ} {d : γ → M β} (e : hB f d H = some p) : ∃ b, f H = some b ∧ d b H = some p := by
  unfold hB at e
  cases hf : f H with
  | none => rw [hf] at e; cases e
  | some b => rw [hf] at e; exact ⟨b, rfl, e⟩
theorem gd_some {q : Prop} [Decidable q] {c : M β} (e : gd q c H = some p) : q ∧ c H = some p := by
  unfold gd at e
  split at e
  · rename_i hq; exact ⟨hq, e⟩
  · cases e
end

theorem place_eq (k : Int) (n : Nat) : seqIndex? k n = place k n := by
  unfold seqIndex? place
  by_cases h : 0 ≤ k
  · have h1 : ¬ k < 0 := by omega
    simp only [h1, if_false, h, if_true]
    by_cases h2 : k < n
    · simp [h2]
    · simp [h2]
  · have h1 : k < 0 := by omega
    simp only [h1, if_true, h, if_false]
    by_cases h2 : -(n : Int) ≤ k
    · have : 0 ≤ k + n ∧ k + n < n := by omega
      simp [h2, this.1, this.2]
    · have : ¬ 0 ≤ k + n := by omega
      simp [h2, this]

theorem place_lt {k : Int} {n j : Nat} (h : place k n = some j) : j < n ∧ -(n : Int) ≤ k ∧ k < n ∧ ((0 ≤ k ∧ k.toNat = j) ∨ (k < 0 ∧ (k + n).toNat = j)) := by
  unfold place at h
  by_cases h0 : 0 ≤ k
  · rw [if_pos h0] at h
    by_cases h1 : k < n
    · rw [if_pos h1] at h
      cases h
      exact ⟨(Int.toNat_lt h0).mpr h1, Int.le_trans (Int.neg_nonpos_of_nonneg (Int.natCast_nonneg n)) h0, h1, .inl ⟨h0, rfl⟩⟩
    · rw [if_neg h1] at h; cases h
  · rw [if_neg h0] at h
    have hk := Int.not_le.mp h0
    by_cases h1 : -(n : Int) ≤ k
    · rw [if_pos h1] at h
      cases h
      exact ⟨by omega, h1, Int.lt_of_lt_of_le hk (Int.natCast_nonneg n), .inr ⟨hk, rfl⟩⟩
    · rw [if_neg h1] at h; cases h

theorem kms_hi_le (o : Option Int) (n : Nat) : kms_hi o n ≤ n := by
  cases o with
  | none => exact Nat.le_refl n
  | some y =>
    show (if y < 0 then n - (-y).toNat else min y.toNat n) ≤ n
    split
    · exact Nat.sub_le _ _
    · exact Nat.min_le_right _ _

theorem strIdx (lo hi : Option Int) (n : Nat) : Builtin.Str.strSliceIndices lo hi 1 n = (List.range (kms_hi hi n - kms_lo lo n)).map (kms_lo lo n + ·) :=
  (show _ = sliceRange (sliceBounds lo hi none n).1 (sliceBounds lo hi none n).2.1 1 from rfl).trans (by rw [kms_bounds]; exact sliceRange_one _ _)
theorem cut_eq {β : Type} (l : List β) (a b : Nat) : (l.drop a).take (b - a) = cut l a b := List.drop_take.symm
theorem cut_all {β : Type} {l : List β} {a b : Nat} (hb : b ≤ l.length) (h : b - a = l.length) : cut l a b = l := by
  rw [← cut_eq, h]
  have ha : a = 0 ∨ l.length = 0 := by omega
  rcases ha with rfl | ha
  · exact List.take_length
  · rw [List.eq_nil_of_length_eq_zero ha, List.drop_nil]; rfl

theorem cut_strV {l : List Nat} (h : StrV l) (a b : Nat) : StrV (cut l a b) :=
  ⟨Nat.le_trans (by rw [← cut_eq]; exact Nat.le_trans (List.length_take_le' _ _) (by rw [List.length_drop]; exact Nat.sub_le _ _)) h.1, fun c hc => h.2 c (List.mem_of_mem_take (List.mem_of_mem_drop hc))⟩

noncomputable def optI : V → Option (Option Int)
  | .none => some none
  | .int k => some (some k)
  | _ => none
theorem bnd1_cases {d n a : Nat} {v : V} (e : bnd1 d n v = some a) : (v = .none ∧ a = d) ∨ ∃ k : Int, v = .int k ∧ a = if k < 0 then (k + n).toNat else min k.toNat n := by
  cases v <;> cases e
  · exact .inl ⟨rfl, rfl⟩
  · exact .inr ⟨_, rfl, rfl⟩
theorem bnd_neg {k : Int} {n : Nat} (h : k < 0) : n - (-k).toNat = (k + n).toNat := by
  obtain ⟨t, ht⟩ := Int.eq_ofNat_of_zero_le (Int.neg_nonneg_of_nonpos (Int.le_of_lt h))
  rw [ht, Int.toNat_natCast, ← Int.neg_neg k, ht, Int.add_comm, ← Int.sub_eq_add_neg, Int.toNat_sub]
theorem bnd_pos {k : Int} {n : Nat} : (if k < 0 then n - (-k).toNat else min k.toNat n) = if k < 0 then (k + n).toNat else min k.toNat n := by
  by_cases h : k < 0
  · rw [if_pos h, if_pos h, bnd_neg h]
  · rw [if_neg h, if_neg h]
theorem bnd_lo {n a : Nat} {v : V} (e : bnd1 0 n v = some a) : ∃ o, optI v = some o ∧ kms_lo o n = a := by
  rcases bnd1_cases e with ⟨rfl, rfl⟩ | ⟨k, rfl, rfl⟩
  · exact ⟨none, rfl, rfl⟩
  · exact ⟨some k, rfl, bnd_pos⟩
theorem bnd_hi {n a : Nat} {v : V} (e : bnd1 n n v = some a) : ∃ o, optI v = some o ∧ kms_hi o n = a := by
  rcases bnd1_cases e with ⟨rfl, rfl⟩ | ⟨k, rfl, rfl⟩
  · exact ⟨none, rfl, rfl⟩
  · exact ⟨some k, rfl, bnd_pos⟩
theorem optI_cases {v : V} {o : Option Int} (e : optI v = some o) : (v = .none ∧ o = none) ∨ ∃ k : Int, v = .int k ∧ o = some k := by
  cases v <;> cases e
  · exact .inl ⟨rfl, rfl⟩
  · exact .inr ⟨_, rfl, rfl⟩
theorem optI_part {P : Params} {t : St} {v : V} {x : Value} {o : Option Int} (r : VR P t v x) (e : optI v = some o) : IsPart x o ∧ ∃ l : Option (Int × Tok), x = partValue l ∧ l.map (·.1) = o := by
  rcases optI_cases e with ⟨rfl, rfl⟩ | ⟨k, rfl, rfl⟩
  · cases r; exact ⟨.none, none, rfl, rfl⟩
  · obtain ⟨u, rfl⟩ := r; exact ⟨.int _ _, some (_, u), rfl, rfl⟩

section
variable {X : Cf} {A : Around} {E : Addr → Prop} {t : St} {H : Hp} {o i lo hi : V} {x y z : Value} {p : V × Hp}

def ItemOk (X : Cf) (A : Around) (E : Addr → Prop) (t : St) (x y : Value) (p : V × Hp) : Prop :=
  ∃ T id, t.s.TypeIs x T ∧ typeLookup (.type T) "__getitem__" = pure (some (.builtin id)) ∧ Sat X A E t (getItem x y) fun u a => Inv X u p.2 ∧ VRl X u p.1 a

theorem QQ.toks (I : Inv X t H) {v : V} {x : Value} {tk : Nat} (r : ∀ u, Ext E t u → VRl X u v x) : QQ E t (fun u a => Inv X u H ∧ VRl X u v a) x { t.s with toks := tk } :=
  ⟨_, rfl, (I.toks tk).2.no, (I.toks tk).1, r _ (I.toks tk).2.no⟩

theorem idx_item (I : Inv X t H) (ro : VRl X t o x) (ri : VRl X t i y) (e : idxV o i H = some p) : ItemOk X A E t x y p := by
  have z63 : ∀ {k : Int} {n : Nat}, n ≤ SZ → -(n : Int) ≤ k → k < n → -(2 ^ 63) ≤ k ∧ k < 2 ^ 63 := fun h1 h2 h3 => by have : SZ = 100000 := rfl; omega
  rcases orM_some e with e | e
  · obtain ⟨s, h1, e⟩ := oB_some e
    obtain ⟨k, h2, e⟩ := oB_some e
    obtain ⟨c, h3, e⟩ := oB_some e
    cases e
    obtain ⟨j, hj, hc⟩ := Option.bind_eq_some_iff.mp h3
    obtain ⟨hz, u, rfl⟩ := str_of ro h1
    obtain ⟨l, rfl⟩ := int_of ri h2
    obtain ⟨p1, p2, p3, _⟩ := place_lt hj
    obtain ⟨q1, q2⟩ := z63 hz.1 p2 p3
    refine ⟨"str", _, typeIs_str t.s _ u, F.slot_str_getitem.lookup, PySem.P.getItem_str (c := c) ?_ ?_ ?_⟩
    · simp; omega
    · rw [toStr_length, place_eq, hj]; simpa [toStr] using hc
    · exact QQ.toks I fun u z' => vr_str (l := [c]) ⟨by show 1 ≤ 100000; decide, by simpa using hz.2 c (List.mem_of_getElem? hc)⟩ _
  rcases orM_some e with e | e
  · obtain ⟨vs, h1, e⟩ := oB_some e
    obtain ⟨k, h2, e⟩ := oB_some e
    obtain ⟨v, h3, e⟩ := oB_some e
    cases e
    obtain ⟨j, hj, hv⟩ := Option.bind_eq_some_iff.mp h3
    obtain ⟨hz, a, xs, rfl, hw, ht, rv⟩ := tup_of ro h1
    obtain ⟨l, rfl⟩ := int_of ri h2
    obtain ⟨p1, p2, p3, _⟩ := place_lt hj
    obtain ⟨q1, q2⟩ := z63 hz p2 p3
    obtain ⟨z, hz', rz⟩ := rv.get hv
    have ht' : IsTup t.s.heap a xs.toArray := ht
    refine ⟨"tuple", _, ht'.typeIs, slot_tuple_getitem.lookup, PyProof.Rows.getItem_tuple (j := j) ht' q1 q2 ?_ (by simpa using hz') (Sat.here ⟨I, rz⟩)⟩
    rw [place_eq]; simpa [← rv.length] using hj
  rcases orM_some e with e | e
  · obtain ⟨vs, h1, e⟩ := hB_some e
    obtain ⟨k, h2, e⟩ := oB_some e
    obtain ⟨v, h3, e⟩ := oB_some e
    cases e
    obtain ⟨j, hj, hv⟩ := Option.bind_eq_some_iff.mp h3
    obtain ⟨a, xs, rfl, _, hl, rv, hz⟩ := lst_of I ro h1
    obtain ⟨l, rfl⟩ := int_of ri h2
    obtain ⟨p1, p2, p3, p4⟩ := place_lt hj
    obtain ⟨q1, q2⟩ := z63 hz p2 p3
    obtain ⟨z, hz', rz⟩ := rv.get hv
    have hlen := rv.length
    refine ⟨"list", _, hl.isList.typeIs, slot_list_getitem.lookup, ?_⟩
    rcases p4 with ⟨h0, hk⟩ | ⟨h0, hk⟩
    · exact wpAny_getItem_list hl.isList h0 q2 (by rw [hk]; simpa using hz') (Sat.here ⟨I, rz⟩)
    · refine wpAny_getItem_list_neg hl.isList h0 (by simpa [← hlen] using p2) q1 ?_ (Sat.here ⟨I, rz⟩)
      have : (k + (xs.toArray.size : Nat)).toNat = j := by simpa [← hlen] using hk
      rw [this]; simpa using hz'
  · obtain ⟨d, h1, e⟩ := oB_some e
    obtain ⟨k, h2, e⟩ := oB_some e
    obtain ⟨v, h3, e⟩ := oB_some e
    cases e
    obtain ⟨a, ds, ep, rfl, _, hs, hg, hK, hv⟩ := dict_of ro h1
    obtain ⟨z, u, rfl⟩ := str_of ri h2
    have hm := dict_mapOf (X := X) hg hK
    rcases dict_find k hK hv with ⟨f1, _⟩ | ⟨v', d', f1, f2, rd⟩
    · rw [f1] at h3; cases h3
    · rw [f1] at h3; cases h3
      refine ⟨"dict", _, hm.typeIs, slot_dict_getitem.lookup, wpAny_getItem_of (strKind_is X.prog X.w _ u) hm (v := d'.val) ?_ (QQ.toks I fun u e => e.vr rd)⟩
      unfold findBy; rw [List.find?_toArray, f2]; rfl
end
end

section

section
variable {X : Cf} {A : Around} {E : Addr → Prop} {t : St} {H : Hp} {o i lo hi : V} {x y z : Value} {p : V × Hp}

theorem QQ.newTup (I : Inv X t H) {vs : List V} {xs : List Value} {tk : Nat} (r : VRs X.w.params t vs xs) (hz : vs.length ≤ SZ) :
    QQ E t (fun u a => Inv X u H ∧ VRl X u (.tup vs) a) (.ref t.s.heap.objs.size) { t.s with heap := t.s.heap.push { cls := .type "tuple", data := .seq xs.toArray }, toks := tk } :=
  ⟨_, rfl, (I.push _ tk).2.no, (I.push _ tk).1, hz, _, xs, rfl, fun z => Nat.lt_irrefl _ (I.wlt _ z), ⟨_, Heap.get?_push_size _ rfl, rfl, _, rfl⟩, (I.push _ tk).2.vrs (X := X) r⟩

theorem slc_list {sl ad : Addr} {xs : List Value} {vs : List V} {a b : Nat} (I : Inv X t H) (hl : t.s.heap.IsList ad xs.toArray) (hv : VRs X.w.params t vs xs) (hz : vs.length ≤ SZ) (rl : VRl X t lo y) (rh : VRl X t hi z) (hs : t.s.heap.IsSliceOf sl y z .none) (ha : bnd1 0 vs.length lo = some a) (hb : bnd1 vs.length vs.length hi = some b) :
    ItemOk X A E t (.ref ad) (.ref sl) (.ref H.length, H ++ [.list (cut vs a b)]) := by
  obtain ⟨ol, el, ka⟩ := bnd_lo ha
  obtain ⟨oh, eh, kb⟩ := bnd_hi hb
  have hlen := hv.length
  refine ⟨"list", _, hl.typeIs, slot_list_getitem.lookup, wpAny_getItem_list_slice hl hs (optI_part rl el).1 (optI_part rh eh).1 .none (by simp) ?_ (by rw [List.size_toArray, ← hlen]; exact size_line hz)⟩
  have q : slicePick xs.toArray ol oh none = (cut xs a b).toArray := by
    rw [kms_pick_eq]
    unfold kms_pick cut
    rw [List.drop_take]
    simp only [← hlen, ka, kb]
  rw [q]
  exact QQ.newList I (VRs.drop _ (VRs.take _ hv)) (Nat.le_trans (by unfold cut; rw [List.length_drop, List.length_take]; exact Nat.le_trans (Nat.sub_le _ _) (Nat.min_le_right _ _)) hz)

theorem slc_item {sl : Addr} (I : Inv X t H) (ro : VRl X t o x) (rl : VRl X t lo y) (rh : VRl X t hi z) (hs : t.s.heap.IsSliceOf sl y z .none) (e : slcV o lo hi H = some p) : ItemOk X A E t x (.ref sl) p := by
  rcases orM_some e with e | e
  · obtain ⟨l, h1, e⟩ := oB_some e
    obtain ⟨a, ha, e⟩ := oB_some e
    obtain ⟨b, hb, e⟩ := oB_some e
    cases e
    obtain ⟨hz, k, rfl⟩ := str_of ro h1
    obtain ⟨ol, el, ka⟩ := bnd_lo ha
    obtain ⟨oh, eh, kb⟩ := bnd_hi hb
    obtain ⟨_, pl, rfl, ql⟩ := optI_part rl el
    obtain ⟨_, ph, rfl, qh⟩ := optI_part rh eh
    refine ⟨"str", _, typeIs_str t.s _ k, F.slot_str_getitem.lookup, wpAny_getItem_str_slice (l := pl) (u := ph) (st := none) hs rfl ?_⟩
    have hb' : b ≤ l.length := kb ▸ kms_hi_le _ _
    have kk : slicePicked (toStr l) pl ph none = (List.range (b - a)).map (a + ·) := by
      show Builtin.Str.strSliceIndices (pl.map (·.1)) (ph.map (·.1)) 1 (toStr l).length = _
      rw [ql, qh, toStr_length, strIdx, ka, kb]
    unfold sliceMade
    rw [kk]
    split
    · rename_i hc
      rw [Bool.and_eq_true, beq_iff_eq, beq_iff_eq, List.length_map, List.length_range, toStr_length] at hc
      rw [cut_all hb' hc.2]
      exact Sat.here ⟨I, vr_str hz k⟩
    · rw [pick_run, show (toStr l).cps.toList = l from rfl, cut_eq]
      exact ⟨by show (toStr (cut l a b)).length ≤ _; rw [toStr_length]; exact size_line (cut_strV hz a b).1, QQ.toks I fun z' z' => vr_str (cut_strV hz a b) _⟩
  rcases orM_some e with e | e
  · obtain ⟨vs, h1, e⟩ := oB_some e
    obtain ⟨k, h2, e⟩ := oB_some e
    obtain ⟨_, h3, e⟩ := oB_some e
    obtain ⟨hk, e⟩ := gd_some e
    cases e
    obtain ⟨hz, a, xs, rfl, hw, ht, hv⟩ := tup_of ro h1
    obtain ⟨u, rfl⟩ := int_of rl h2
    cases none_of rh h3
    have ht' : IsTup t.s.heap a xs.toArray := ht
    have hlen := hv.length
    obtain ⟨n, rfl⟩ := Int.eq_ofNat_of_zero_le (Int.le_trans (by decide) hk.1)
    refine ⟨"tuple", _, ht'.typeIs, slot_tuple_getitem.lookup, getItem_tuple_from (a := n) (u := u) ht' hs (by omega) (by rw [List.size_toArray]; omega) ?_ (by rw [List.size_toArray, ← hlen]; exact size_line hz)⟩
    exact QQ.newTup I (hv.drop n) (Nat.le_trans (by rw [List.length_drop]; exact Nat.sub_le _ _) hz)
  · obtain ⟨vs, h1, e⟩ := hB_some e
    obtain ⟨a, ha, e⟩ := oB_some e
    obtain ⟨b, hb, e⟩ := oB_some e
    cases e
    obtain ⟨ad, xs, rfl, _, hl, hv, hz⟩ := lst_of I ro h1
    exact slc_list I hl.isList hv hz rl rh hs ha hb
end
end

section

noncomputable def methNames : List Str := ["append", "extend", "pop", "join", "find", "get", "put", "take", "rescan_template", "now", "step", "ahead", "is_sign", "eat_sign", "fault"]
noncomputable def methName (i : Nat) : Str := methNames.getD i ""
noncomputable def methId : Nat → String
  | 0 => "list.append" | 1 => "list.extend" | 2 => "list.pop" | 3 => "str.join" | 4 => "str.find" | _ => "dict.get"
noncomputable def biName : Bi → Str
  | .len => "len" | .ord => "ord" | .chr => "chr" | .rng => "range" | .str => "str"
noncomputable def biVal : Bi → Value
  | .len => .builtin "len" | .ord => .builtin "ord" | .chr => .builtin "chr" | .rng => .type "range" | .str => .type "str"

theorem strsOf_vals {P : Params} {t : St} : ∀ {vs : List V} {xs : List Value} {ts : List (List Nat)}, VRs P t vs xs → strsOf vs = some ts →
    ∃ l : List (Str × Tok), xs = strValues l ∧ l.map (·.1) = ts.map toStr ∧ ∀ t ∈ ts, StrV t
  | [], [], _, _, e => by cases e; exact ⟨[], rfl, rfl, fun z' h => nomatch h⟩
  | v :: vs, x :: xs, ts, r, e => by
    obtain ⟨s, h1, e⟩ := Option.bind_eq_some_iff.mp e
    obtain ⟨ts', h2, rfl⟩ := Option.map_eq_some_iff.mp e
    obtain ⟨z, u, rfl⟩ := str_of r.1 h1
    obtain ⟨l, rfl, h3, h4⟩ := strsOf_vals r.2 h2
    exact ⟨(toStr s, u) :: l, rfl, by rw [List.map_cons, List.map_cons, h3], fun t ht => (List.mem_cons.mp ht).elim (fun q => q ▸ z) (h4 t)⟩
  | [], _ :: _, _, r, _ => r.elim
  | _ :: _, [], _, r, _ => r.elim

theorem join_flat0 : ∀ ts : List (List Nat), Str.join (toStr []) (ts.map toStr) = toStr ts.flatten
  | [] => rfl
  | [x] => by show toStr x = _; simp
  | x :: y :: r => by
    have ih := join_flat0 (y :: r)
    show toStr x ++ toStr [] ++ Str.join (toStr []) ((y :: r).map toStr) = _
    rw [ih, toStr_append, toStr_append]; simp
theorem join_flat (ts : List (List Nat)) : Txt.join (toStr []) (ts.map toStr) = toStr ts.flatten := by
  unfold Txt.join
  rw [StrLaws.glued_eq_join]; exact join_flat0 ts

theorem fold_len (ts : List (List Nat)) : ∀ n : Nat, (ts.map toStr).foldl (fun (a : Nat) (x : Str) => a + x.length + (toStr []).length) n = n + ts.flatten.length := by
  induction ts with
  | nil => intro n; simp
  | cons x r ih => intro n; rw [List.map_cons, List.foldl_cons, ih]; simp [toStr_length]; omega

theorem joinOk {ts : List (List Nat)} (h : ts.flatten.length ≤ SZ) : JoinOk (toStr []) (ts.map toStr) = true := by
  unfold JoinOk
  have e : (ts.map toStr).toArray.foldl (fun (a : Nat) (x : Str) => a + x.length + (toStr []).length) 0 = ts.flatten.length := by
    rw [List.foldl_toArray, fold_len]; simp
  show (!Builtin.Str.tooLong ((ts.map toStr).toArray.foldl (fun (a : Nat) (x : Str) => a + x.length + (toStr []).length) 0)) = true
  rw [e]
  have hs := size_line h
  unfold Builtin.Str.tooLong
  rw [Bool.not_eq_true', decide_eq_false_iff_not]
  omega

theorem flat_strV {ts : List (List Nat)} (h : ts.flatten.length ≤ SZ) (k : ∀ t ∈ ts, StrV t) : StrV ts.flatten :=
  ⟨h, fun c hc => by obtain ⟨t, ht, hc⟩ := List.mem_flatten.mp hc; exact (k t ht).2 c hc⟩

theorem findIx_spec (c : Nat) : ∀ (l : List Nat) (n : Nat), (findIx c l n = -1 ∧ ∀ i : Nat, l[i]? ≠ some c) ∨ ∃ i : Nat, findIx c l n = ((n + i : Nat) : Int) ∧ l[i]? = some c ∧ ∀ k : Nat, k < i → l[k]? ≠ some c
  | [], n => .inl ⟨rfl, by simp⟩
  | x :: xs, n => by
    unfold findIx
    by_cases h : x = c
    · rw [if_pos h]; exact .inr ⟨0, by simp, by simp [h], fun k hk => absurd hk (Nat.not_lt_zero _)⟩
    · rw [if_neg h]
      rcases findIx_spec c xs (n + 1) with ⟨h1, h2⟩ | ⟨i, h1, h2, h3⟩
      · refine .inl ⟨h1, fun i => ?_⟩
        cases i with
        | zero => simpa using h
        | succ i => simpa using h2 i
      · refine .inr ⟨i + 1, by rw [h1]; congr 1; omega, by simpa using h2, fun k hk => ?_⟩
        cases k with
        | zero => simpa using h
        | succ k => simpa using h3 k (by omega)

theorem find_eq (l : List Nat) (c : Nat) : Txt.find (toStr l) (toStr [c]) = findIx c l 0 := by
  have at_ : ∀ i : Nat, StrLaws.At (toStr l) (toStr [c]) (toStr l).length i ↔ l[i]? = some c := fun i => by
    exact StrLaws.subAt_one (toStr l) c i
  rcases find_whole (toStr l) (toStr [c]) with ⟨h1, h2⟩ | ⟨i, h1, h2, h3⟩ <;> rcases findIx_spec c l 0 with ⟨k1, k2⟩ | ⟨j, k1, k2, k3⟩
  · rw [h1, k1]
  · exact absurd ((at_ j).mpr k2) (h2 j)
  · exact absurd ((at_ i).mp h2) (k2 i)
  · rw [h1, k1]
    have : i = j := by
      rcases Nat.lt_trichotomy i j with h | h | h
      · exact absurd ((at_ i).mp h2) (k3 i h)
      · exact h
      · exact absurd ((at_ j).mpr k2) (h3 j h)
    subst this; simp


theorem one1_eq {vs : List V} {v : V} (e : one1 vs = some v) : vs = [v] := by
  match vs, e with
  | [x], e => cases e; rfl
theorem two2_eq {vs : List V} {v : V × V} (e : two2 vs = some v) : vs = [v.1, v.2] := by
  match vs, e with
  | [x, y], e => cases e; rfl

section
variable {X : Cf} {A : Around} {E : Addr → Prop} {t : St} {H : Hp} {vs : List V} {xs : List Value}
theorem one_of {v : V} (r : VRs X.w.params t vs xs) (e : one1 vs = some v) : ∃ x, xs = [x] ∧ VRl X t v x := by
  rw [one1_eq e] at r
  match xs, r with
  | [x], r => exact ⟨x, rfl, r.1⟩
theorem two_of {v : V × V} (r : VRs X.w.params t vs xs) (e : two2 vs = some v) : ∃ x y, xs = [x, y] ∧ VRl X t v.1 x ∧ VRl X t v.2 y := by
  rw [two2_eq e] at r
  match xs, r with
  | [x, y], r => exact ⟨x, y, rfl, r.1, r.2.1⟩

theorem rng_end (I : Inv X t H) {lo hi : Int} {a b c : Tok} {tk : Nat} (hr : -SMALL < lo ∧ lo < SMALL ∧ -SMALL < hi ∧ hi < SMALL) {ob : Obj} (ho : ob = { cls := .type "range", dict := none, data := .fields #[.int lo a, .int hi b, .int 1 c], slots := #[] }) :
    QQ E t (fun u x => Inv X u H ∧ VRl X u (.rng lo hi) x) (.ref t.s.heap.objs.size) { t.s with heap := t.s.heap.push ob, toks := tk } :=
  ⟨_, rfl, (I.push _ tk).2.no, (I.push _ tk).1, _, _, _, _, rfl, fun z => Nat.lt_irrefl _ (I.wlt _ z), by subst ho; exact Heap.get?_push_size _ rfl, hr⟩

theorem bi_sim {b : Bi} (rs : VRs X.w.params t vs xs) : Sim X A E t (PySem.call (biVal b) xs) (biV b vs) (VRl X) := by
  cases b
  · refine simO fun v hv => ?_
    obtain ⟨x, rfl, r⟩ := one_of rs hv
    refine simOr (simO fun s hs => ?_) (simHp fun H l I hl => fun z' p q => ?_)
    · obtain ⟨z, k, rfl⟩ := str_of r hs
      have hz := size_small z.1
      refine simRet fun Q h => PySem.P.len_str (by rw [toStr_length]; omega) ?_
      rw [toStr_length]
      exact h _ _ (vr_int _ _)
    · cases q
      obtain ⟨a, ys, rfl, _, hl, hv, hz⟩ := lst_of I r hl
      have hlen := hv.length
      refine PyProof.Rows.len_list hl.isList (by rw [List.size_toArray, ← hlen]; exact size_small hz) ?_
      have q : ((List.toArray ys).size : Int) = l.2.length := by rw [List.size_toArray, hlen]
      rw [q]
      exact QQ.toks I fun z' z' => vr_int _ _
  · refine simO fun v hv => ?_
    obtain ⟨x, rfl, r⟩ := one_of rs hv
    refine simO fun c hc => ?_
    obtain ⟨z, k, rfl⟩ := str_of r (chr_str hc)
    exact simRet fun Q h => PySem.P.ord_of_char (h _ _ (vr_int _ _))
  · refine simO fun v hv => ?_
    obtain ⟨x, rfl, r⟩ := one_of rs hv
    refine simO fun i hi => simGd fun hn => ?_
    have hn := chrI_lt hn
    obtain ⟨k, rfl⟩ := int_of r hi
    refine simRet fun Q h => PyProof.Rows.chr_of_range hn.1 (by omega) (h _ _ (vr_str (l := [_]) ⟨by show 1 ≤ 100000; decide, fun c hc => ?_⟩ _))
    rw [List.mem_singleton.mp hc]; omega
  · refine simOr (simO fun v hv => ?_) (simO fun v hv => ?_)
    · obtain ⟨x, rfl, r⟩ := one_of rs hv
      refine simO fun i hi => simGd fun hn => fun H I p e => ?_
      obtain ⟨k, rfl⟩ := int_of r hi
      cases e
      exact call_range_1 (rng_end I ⟨by decide, by decide, smallI_lt hn⟩ rfl)
    · obtain ⟨x, y, rfl, r1, r2⟩ := two_of rs hv
      refine int_sim r1 r2 fun i j k l hx hy => simGd fun hn => fun H I p e => ?_
      subst hx hy
      cases e
      exact call_range_2 (rng_end I (small2 hn) rfl)
  · refine simO fun v hv => ?_
    obtain ⟨x, rfl, r⟩ := one_of rs hv
    refine simO fun i hi => simGd fun hn => ?_
    obtain ⟨k, rfl⟩ := int_of r hi
    refine simRet fun Q h => PySem.P.str_of_int ?_ ?_
    · by_cases h0 : i = 0
      · subst h0; decide
      · exact Nat.lt_trans (log_small (b := i) (by omega) (smallI_lt hn.2.1).2) (by decide)
    · have q : (Str.ofString (toString i)) = toStr (decText i) := Str.ofString_eq_toList _
      rw [q]
      refine h _ _ (vr_str ⟨hn.2.2, fun c hc => ?_⟩ _)
      obtain ⟨ch, _, rfl⟩ := List.mem_map.mp hc
      have := ch.valid
      simp only [UInt32.isValidChar, Nat.isValidChar] at this
      show ch.val.toNat < _
      omega
end
end

section

section
variable {X : Cf} {A : Around} {E : Addr → Prop} {t : St} {H : Hp} {vs : List V} {xs : List Value} {o : V} {x : Value}

theorem QQ.updList {α : Type} (I : Inv X t H) {i : Nat} {a : Addr} {xs ys : List Value} {vs : List V} {f : Array Value → Array Value} {R : St → α → Prop} {r : α} (hp : t.α[i]? = some (a, a)) (hl : t.s.heap.PlainList a xs.toArray) (hf : f xs.toArray = ys.toArray)
    (hv : VRs X.w.params t vs ys) (hz : vs.length ≤ SZ) (hR : ∀ u, Ext E t u → R u r) :
    QQ E t (fun u a => Inv X u (H.set i (.list vs)) ∧ R u a) r { t.s with heap := t.s.heap.update a (Obj.mapSeq f), toks := t.s.toks } := by
  obtain ⟨n, hg⟩ := hl
  obtain ⟨I2, e2⟩ := I.upd (h' := t.s.heap.update a (Obj.mapSeq f)) (o' := .list vs) t.s.toks hp (fun b x h1 z' e => by rw [Heap.get?_update_other _ _ (Ne.symm h1)]; exact e) (by rw [Heap.size_after_update]; exact Nat.le_refl _) fun m =>
    ⟨hz, rfl, ys, ⟨if (f xs.toArray).size == xs.toArray.size then n else n + 1, by
      show (t.s.heap.update a (Obj.mapSeq f)).get? a = _
      rw [Heap.get?_update_self _ hg rfl, ← hf]; rfl⟩, VRs.mv m _ _ hv⟩
  exact ⟨_, rfl, e2.no, I2, hR _ e2.no⟩

theorem pop_list (ys : List Value) (h0 : 0 < ys.length) : (fun xs : Array Value => xs.eraseIdxIfInBounds (ys.toArray.size - 1)) ys.toArray = (ys.take (ys.length - 1)).toArray := by
  show ys.toArray.eraseIdxIfInBounds (ys.toArray.size - 1) = _
  unfold Array.eraseIdxIfInBounds
  rw [dif_pos (by rw [List.size_toArray]; omega)]
  apply Array.ext'
  rw [Array.toList_eraseIdx]
  simp only [List.size_toArray]
  rw [List.eraseIdx_eq_take_drop_succ]
  have : ys.length - 1 + 1 = ys.length := by omega
  rw [this, List.drop_length, List.append_nil]

theorem bmeth_sim {m : Nat} (ro : VRl X t o x) (rs : VRs X.w.params t vs xs) : Sim X A E t (PySem.call (.builtin (methId m)) (x :: xs)) (bmeth o m vs) (VRl X) := by
  match m with
  | 0 =>
    refine simHp fun H l I hl => simhO fun v hv => simhGd fun hz0 => fun z' p e => ?_
    cases e
    obtain ⟨y, rfl, r⟩ := one_of rs hv
    obtain ⟨a, ys, rfl, hp, ⟨n, hg⟩, rv, hz⟩ := lst_of I ro hl
    have hlen := rv.length
    exact call_meets F.slot_list_append ⟨_, hg, rfl⟩ F.entry_list_append (F.args_list_append_2 _ _) (PySem.list_append a ys.toArray n y (by rw [List.size_toArray, ← hlen]; exact size_line hz))
      ⟨hg, QQ.updList I (f := (·.push y)) (ys := ys ++ [y]) hp ⟨n, hg⟩ (by simp) (rv.append (ws := [_]) (ys := [y]) ⟨r, trivial⟩) (by rw [List.length_append]; exact hz0) fun z' z' => rfl⟩
  | 1 =>
    refine simHp fun H l I hl => simhO fun v hv => simhHp fun k hk => simhGd fun hz0 => fun z' p e => ?_
    cases e
    obtain ⟨y, rfl, r⟩ := one_of rs hv
    obtain ⟨a, ys, rfl, hp, ⟨n, hg⟩, rv, hz⟩ := lst_of I ro hl
    obtain ⟨a2, ys2, rfl, hp2, ⟨n2, hg2⟩, rv2, hz2⟩ := lst_of I r hk
    have hs1 : ys.toArray.size + ys2.toArray.size ≤ sizeLine := by rw [List.size_toArray, List.size_toArray, ← rv.length, ← rv2.length]; exact size_line hz0.2
    exact call_meets F.slot_list_extend ⟨_, hg, rfl⟩ F.entry_list_extend (F.args_list_extend_2 _ _) (AutoSeq1.list_extend_list_list_0 a ys.toArray n a2 ys2.toArray n2 (extend_door hs1) (Nat.le_trans (Nat.le_add_right _ _) hs1))
      ⟨hg, hg2, QQ.updList I (f := (· ++ ys2.toArray)) (ys := ys ++ ys2) hp ⟨n, hg⟩ (by simp) (rv.append rv2) (by rw [List.length_append]; exact hz0.2) fun z' z' => rfl⟩
  | 2 =>
    refine simHp fun H l I hl => ?_
    cases vs with
    | cons _ _ => exact fun z' z' e => by cases e
    | nil =>
      refine simhO fun v hlast => fun z' p e => ?_
      cases e
      match xs, rs with
      | [], rs =>
      obtain ⟨a, ys, rfl, hp, ⟨n, hg⟩, rv, hz⟩ := lst_of I ro hl
      have hlen := rv.length
      have hi : l.2[l.2.length - 1]? = some v := by rw [← List.getLast?_eq_getElem?]; exact hlast
      obtain ⟨y, hy, ry⟩ := rv.get hi
      have h0 : 0 < ys.length := Nat.lt_of_le_of_lt (Nat.zero_le _) (List.getElem?_eq_some_iff.mp hy).1
      exact call_meets F.slot_list_pop ⟨_, hg, rfl⟩ F.entry_list_pop (F.args_list_pop_1 _) (MeetsSeq.list_pop_last a ys.toArray n y (by rw [List.size_toArray, ← hlen]; simpa using hy) (by rw [List.size_toArray, ← hlen]; exact size_line hz))
        ⟨hg, QQ.updList I (f := fun xs => xs.eraseIdxIfInBounds (ys.toArray.size - 1)) (ys := ys.take (ys.length - 1)) (vs := l.2.dropLast) hp ⟨n, hg⟩ (pop_list ys h0) (by rw [List.dropLast_eq_take, hlen]; exact rv.take _)
          (by rw [List.length_dropLast]; exact Nat.le_trans (Nat.sub_le _ _) hz) fun z' e => e.vr ry⟩
  | 3 =>
    refine simO fun s hs => simO fun v hv => simHp fun H l I hl => simhO fun ts hts => simhGd fun hz0 => fun z' p e => ?_
    cases e
    obtain ⟨y, rfl, r⟩ := one_of rs hv
    obtain ⟨_, k, rfl⟩ := str_of ro hs
    obtain ⟨rfl, hz0⟩ := hz0
    obtain ⟨a, ys, rfl, hp, hl, rv, hz⟩ := lst_of I r hl
    obtain ⟨q, rfl, h2, h3⟩ := strsOf_vals rv hts
    refine SC.join hl.isList h2 (joinOk hz0) fun t' k => ?_
    rw [join_flat]
    exact QQ.toks I fun z' z' => vr_str (flat_strV hz0 h3) t'
  | 4 =>
    refine simO fun s hs => simO fun v hv => simO fun c hc => ?_
    obtain ⟨y, rfl, r⟩ := one_of rs hv
    obtain ⟨_, k, rfl⟩ := str_of ro hs
    obtain ⟨_, k2, rfl⟩ := str_of r (chr_str hc)
    refine simRet fun Q h => SC.find ?_
    rw [find_eq]
    exact h _ _ (vr_int _ _)
  | 5 =>
    refine simO fun d hd => simO fun v hv => simO fun k hk => fun H I p e => ?_
    cases e
    obtain ⟨y, z, rfl, r1, r2⟩ := two_of rs hv
    obtain ⟨a, ds, ep, rfl, _, hs, hg, hK, rv⟩ := dict_of ro hd
    obtain ⟨zz, u, rfl⟩ := str_of r1 hk
    have hm := dict_mapOf (X := X) hg hK
    have hs' : (a == sysModules) = false := beq_eq_false_iff_ne.mpr hs
    refine call_meetsIn F.slot_dict_get hm.typeIs F.entry_dict_get (F.args_dict_get_3 _ _ _) (meets_dict_get_default _ a (strKind_is X.prog X.w _ u) hs' z) ⟨_, hm, ?_⟩
    rcases dict_find k hK rv with ⟨f1, f2⟩ | ⟨v', y, f1, f2, ry⟩
    · have q : findBy Value.isStrOf ds.toArray (toStr k) = none := by unfold findBy; rw [List.find?_toArray, f2]; rfl
      rw [q, f1]
      exact QQ.toks I fun z' e => e.vr r2
    · have q : findBy Value.isStrOf ds.toArray (toStr k) = some y.val := by unfold findBy; rw [List.find?_toArray, f2]; rfl
      rw [q, f1]
      exact QQ.toks I fun z' e => e.vr ry
  | n + 6 => exact simFail
end
end

section

structure KOk (K : Frag) : Prop where
  attr : ∀ C f j, fldIx C f = some j → plainGet K C (attrName f) = true ∧ hasDictIn K C = true ∧ (∃ a, findIn K (.ref C) (attrName f) = some a ∧ noGet K a = true) ∧ takerIn K C (attrName f) = some none ∧
    findIn K (.ref C) "__setattr__" = some (some (.builtin "object.__setattr__")) ∧ plainOver K C = true
  meth : ∀ C m f, methIx C m = some f → plainGet K C (methName m) = true ∧ findIn K (.ref C) (methName m) = some (some (.ref f)) ∧ isFn K (.ref f) = true ∧ keepIn K (.ref f) = true

theorem fld_names {C f j : Nat} (h : fldIx C f = some j) : (fnames C).idxOf? (attrName f) = some j := by
  have hm : f ∈ fieldsOf C := by
    unfold fldIx at h
    obtain ⟨hlt, hx, _⟩ := List.idxOf?_eq_some_iff.mp h
    rw [← hx]; exact List.getElem_mem hlt
  rw [← h]
  have key : classL.all (fun p => p.2.all fun f => decide ((p.2.map attrName).idxOf? (attrName f) = p.2.idxOf? f)) = true := by decide +kernel
  exact class_of (fun l => f ∈ l → (l.map attrName).idxOf? (attrName f) = l.idxOf? f) (fun h => nomatch h) (fun p hp hf => of_decide_eq_true (List.all_eq_true.mp (List.all_eq_true.mp key p hp) f hf)) hm

theorem meth_names {C m f : Nat} (h : methIx C m = some f) : (fnames C).idxOf? (methName m) = none := by
  have key : methL.all (fun p => ((fnames p.1).idxOf? (methName p.2.1)).isNone) = true := by decide +kernel
  exact Option.isNone_iff_eq_none.mp (List.all_eq_true.mp key _ (meth_of h))

theorem fields_le {C : Nat} : (fieldsOf C).length ≤ 500 := class_of (fun l => l.length ≤ 500) (Nat.zero_le _) fun p hp => of_decide_eq_true (List.all_eq_true.mp (show classL.all (fun p => decide (p.2.length ≤ 500)) = true by decide +kernel) p hp)

theorem keys_getL {P : Params} {name : Str} : ∀ {ks : List Str} {ds : List DictEntry} {j : Nat}, KeysR P ks ds → ks.idxOf? name = some j → ∃ d, ds[j]? = some d ∧ ds.find? (·.key.isStr name) = some d
  | [], _, _, _, e => by simp at e
  | k :: ks, d :: ds, j, r, e => by
    obtain ⟨⟨t, hk⟩, _, r'⟩ := r
    rw [List.idxOf?_cons] at e
    by_cases h : (k == name) = true
    · rw [if_pos h] at e; cases e
      exact ⟨d, by simp, by rw [List.find?_cons, hk]; show (match (k == name) with | true => _ | false => _) = _; rw [h]⟩
    · rw [if_neg h] at e
      obtain ⟨j', e', rfl⟩ := Option.map_eq_some_iff.mp e
      obtain ⟨d', h1, h2⟩ := keys_getL r' e'
      refine ⟨d', by simpa using h1, ?_⟩
      rw [List.find?_cons, hk]
      show (match (k == name) with | true => _ | false => _) = _
      rw [Bool.not_eq_true] at h
      rw [h]; exact h2
  | _ :: _, [], _, r, _ => r.elim

theorem keys_noRef {P : Params} : ∀ {ks : List Str} {ds : List DictEntry}, KeysR P ks ds → ds.any (·.refKey) = false
  | [], [], _ => rfl
  | k :: ks, d :: ds, r => by
    obtain ⟨⟨t, hk⟩, _, r'⟩ := r
    rw [List.any_cons, keys_noRef r']; simp [DictEntry.refKey, hk]
  | [], _ :: _, r => r.elim
  | _ :: _, [], r => r.elim

theorem keys_none {P : Params} {name : Str} : ∀ {ks : List Str} {ds : List DictEntry}, KeysR P ks ds → ks.idxOf? name = none → ds.find? (·.key.isStr name) = none
  | [], [], _, _ => rfl
  | k :: ks, d :: ds, r, e => by
    obtain ⟨⟨t, hk⟩, _, r'⟩ := r
    rw [List.idxOf?_cons] at e
    by_cases h : (k == name) = true
    · rw [if_pos h] at e; cases e
    · rw [if_neg h] at e
      rw [List.find?_cons, hk]
      show (match (k == name) with | true => _ | false => _) = _
      rw [Bool.not_eq_true] at h
      rw [h]
      exact keys_none r' (by simpa using e)
  | [], _ :: _, r, _ => r.elim
  | _ :: _, [], r, _ => r.elim

theorem getL_some {P : Params} {name : Str} {ks : List Str} {ds : List DictEntry} {j : Nat} (r : KeysR P ks ds) (e : ks.idxOf? name = some j) : ∃ d, ds[j]? = some d ∧ getL name ds = some (some d.val) := by
  obtain ⟨d, h1, h2⟩ := keys_getL r e
  exact ⟨d, h1, by unfold getL; rw [h2]⟩
theorem getL_none {P : Params} {name : Str} {ks : List Str} {ds : List DictEntry} (r : KeysR P ks ds) (e : ks.idxOf? name = none) : getL name ds = some none := by
  unfold getL; rw [keys_none r e]; simp only; rw [keys_noRef r]; rfl

theorem put_some {P : Params} {name : Str} {hsh : Int} {key v : Value} : ∀ {ks : List Str} {ds : List DictEntry} {j : Nat}, KeysR P ks ds → ks.idxOf? name = some j →
    ∃ ds', putL name hsh key v ds = ds' ∧ KeysR P ks ds' ∧ ds'.map (·.val) = (ds.map (·.val)).set j v ∧ ds.any (·.key.isStr name) = true
  | [], _, _, _, e => by simp at e
  | k :: ks, d :: ds, j, r, e => by
    obtain ⟨⟨t, hk⟩, hh, r'⟩ := r
    rw [List.idxOf?_cons] at e
    have hb : d.key.isStr name = (k == name) := by rw [hk]; rfl
    by_cases h : (k == name) = true
    · rw [if_pos h] at e; cases e
      refine ⟨⟨d.hash, d.key, v⟩ :: ds, ?_, ⟨⟨t, hk⟩, hh, r'⟩, by simp, by rw [List.any_cons, hb, h]; rfl⟩
      unfold putL; rw [hb, if_pos h]
    · rw [if_neg h] at e
      obtain ⟨j', e', rfl⟩ := Option.map_eq_some_iff.mp e
      obtain ⟨ds', h1, h2, h3, h4⟩ := put_some (hsh := hsh) (key := key) (v := v) r' e'
      refine ⟨d :: ds', ?_, ⟨⟨t, hk⟩, hh, h2⟩, by simp [h3], by rw [List.any_cons, h4, Bool.or_true]⟩
      unfold putL; rw [hb, if_neg h, h1]
  | _ :: _, [], _, r, _ => r.elim

theorem put_none {P : Params} {name : Str} {key v : Value} {t : Tok} (hk : key = .str name t) : ∀ {ks : List Str} {ds : List DictEntry}, KeysR P ks ds → ks.idxOf? name = none →
    ∃ ds', putL name (PyData.keyHash P name) key v ds = ds' ∧ KeysR P (ks ++ [name]) ds' ∧ ds'.map (·.val) = ds.map (·.val) ++ [v]
  | [], [], _, _ => ⟨[⟨PyData.keyHash P name, key, v⟩], rfl, ⟨⟨t, hk⟩, rfl, trivial⟩, rfl⟩
  | k :: ks, d :: ds, r, e => by
    obtain ⟨⟨u, hk'⟩, hh, r'⟩ := r
    rw [List.idxOf?_cons] at e
    have hb : d.key.isStr name = (k == name) := by rw [hk']; rfl
    by_cases h : (k == name) = true
    · rw [if_pos h] at e; cases e
    · rw [if_neg h] at e
      obtain ⟨ds', h1, h2, h3⟩ := put_none (v := v) hk r' (by simpa using e)
      refine ⟨d :: ds', ?_, ⟨⟨u, hk'⟩, hh, h2⟩, by simp [h3]⟩
      unfold putL; rw [hb, if_neg h, h1]
  | [], _ :: _, r, _ => r.elim
  | _ :: _, [], r, _ => r.elim

theorem KeysR.length {P : Params} : ∀ {ks : List Str} {ds : List DictEntry}, KeysR P ks ds → ks.length = ds.length
  | [], [], _ => rfl
  | _ :: _, _ :: _, r => by simp [KeysR.length r.2.2]
  | [], _ :: _, r => r.elim
  | _ :: _, [], r => r.elim


theorem instAt_of {h : Heap} {x dx C : Addr} {ds : List DictEntry} {ep : Nat} (h1 : h.get? x = some (instObj C dx)) (h2 : h.get? dx = some (dictOf ds ep)) : PySem.W.InstAt h x (instObj C dx) C (some (dictOf ds ep)) :=
  ⟨h1, rfl, rfl, h2⟩
theorem vr_handed {P : Params} {t : St} {v : V} {x : Value} (r : VR P t v x) : handedIn x = true := by
  cases v with
  | none => cases r; rfl
  | undef => exact r.elim
  | bool _ => cases r; rfl
  | int _ => exact r.elim fun z' e => e ▸ rfl
  | str _ => exact r.2.elim fun z' e => e ▸ rfl
  | tup _ => exact r.2.elim fun z' q => q.elim fun z' q => q.1 ▸ rfl
  | dict _ _ => exact r.elim fun z' q => q.elim fun z' q => q.elim fun z' q => q.1 ▸ rfl
  | rng _ _ => exact r.elim fun z' q => q.elim fun z' q => q.elim fun z' q => q.elim fun z' q => q.1 ▸ rfl
  | obj _ _ => exact r.elim fun z' q => q.elim fun z' q => q.elim fun z' q => q.elim fun z' q => q.1 ▸ rfl
  | ref _ => exact r.elim fun z' q => q.2 ▸ rfl

section
variable {prog : Program} {w : World} {A : Around} {s : Shared} {K : Frag}
theorem setAttr_core {x dx C : Addr} {name : Str} {v : Value} {ds : List DictEntry} {n : Nat} {Q : Unit → Shared → Prop} (Xk : K.In s.heap) (h1 : s.heap.get? x = some (instObj C dx)) (h2 : s.heap.get? dx = some (dictOf ds n))
    (hs : findIn K (.ref C) "__setattr__" = some (some (.builtin "object.__setattr__"))) (hp : plainOver K C = true) (ht : takerIn K C name = some none) (hh : hasDictIn K C = true)
    (hr : ds.any (·.refKey) = false) (hz : ds.length ≤ 1000)
    (h : Q () { s with heap := s.heap.update dx (Obj.putName name (PyData.keyHash w.params name) (.str name (s.toks + 1)) v), toks := s.toks + 1 + 1 }) :
    wpAny (model prog w) A (setAttr (.ref x) name v) Q noE s := by
  have I := instAt_of h1 h2
  refine set_plain Xk I hs (osa_open (s := { s with toks := s.toks + 1 }) Xk I hp ht fun b => ?_)
  obtain ⟨cd, hc, hd'⟩ := any_some hh
  refine wpAny_bind (wpAny_pure (wpAny_bind (wpAny_bind (wpAny_loadPart h1 (wpAny_bind (looks_clsIn Xk hc _ _ _ _ (fun z' z' e => e) ?_))))))
  rw [hd']
  refine wpAny_pure (a := some dx) (wpAny_bind (wpAny_pure (wpAny_bind ?_)))
  unfold nsSet
  refine wpAny_bind (wpAny_bind (wpAny_askSetting (wpAny_pure (wpAny_bind (wpAny_mkText (wpAny_bind (wpAny_loadPart h2 ?_)))))))
  have c : (!(ds.toArray).any (·.key.isStr name) && (ds.toArray).any (·.refKey)) = false := by
    rw [← Array.any_toList, ← Array.any_toList]; simp only [hr, Bool.and_false]
  rw [show (dictOf ds n).data = .dict ds.toArray n from rfl]
  dsimp only
  rw [aRefKeyMayBeTheName_at, c]
  refine wpAny_updatePart h2 ?_
  have hlen : (putL name (PyData.keyHash w.params name) (.str name (s.toks + 1)) v ds).length ≤ ds.length + 1 := by
    have : ∀ l : List DictEntry, (putL name (PyData.keyHash w.params name) (.str name (s.toks + 1)) v l).length ≤ l.length + 1 := by
      intro l; induction l with
      | nil => simp [putL]
      | cons e r ih => unfold putL; split <;> simp <;> omega
    exact this ds
  have D' : (s.heap.update dx (Obj.putName name (PyData.keyHash w.params name) (.str name (s.toks + 1)) v)).get? dx = some (dictOf (putL name (PyData.keyHash w.params name) (.str name (s.toks + 1)) v ds) (putN name ds n)) := by
    rw [Heap.get?_update_self _ h2 (by rw [putName_dict]; rfl), putName_dict]
  refine wpAny_bind (wpAny_lookBehind D' (pastItsLine_dict (by rw [List.size_toArray, sizeLine_eq]; omega)) ?_)
  exact wpAny_pure h

end
end

section

structure Base (X : Cf) : Prop where
  ko : KOk X.K
  kin : X.K.In X.h₀
  mg : X.h₀.Ns mainGlobals X.mg
  mb : X.h₀.Ns builtinsNs X.mb
  lim : X.h₀.NoLimit

section
variable {X : Cf} {A : Around} {E : Addr → Prop} {t : St} {H : Hp} {o v : V} {x z : Value}

theorem attr_core (B : Base X) (I : Inv X t H) {C f : Nat} {y : V} {a dx : Addr} {ds : List DictEntry} {ep : Nat} {vs : List V} (h1 : t.s.heap.get? a = some (instObj C dx)) (h2 : t.s.heap.get? dx = some (dictOf ds ep))
    (hK : KeysR X.w.params (fnames C) ds) (hv : VRs X.w.params t vs (ds.map (·.val))) (e : (fldIx C f).bind (fun j => vs[j]?) = some y) : Sat X A E t (getAttr (.ref a) (attrName f) true) fun u a => Inv X u H ∧ VRl X u y a := by
  obtain ⟨j, hj, e⟩ := Option.bind_eq_some_iff.mp e
  obtain ⟨k1, k2, ⟨_, k3, k4⟩, _, _, _⟩ := B.ko.attr C f j hj
  obtain ⟨d, hd, hg⟩ := getL_some hK (fld_names hj)
  obtain ⟨w, hw, rw'⟩ := hv.get e
  rw [List.getElem?_map, hd] at hw
  cases hw
  exact get_value (B.kin.keeps I.keep) (instAt_of h1 h2) (plainGet_of k1).1 (findObj_own k2 k3 k4 ((lookIn_dict _ _ ep).trans hg)) (vr_handed rw') (QQ.toks I fun z' e => e.vr rw')

theorem attr_sim (B : Base X) {f : Nat} (ro : VRl X t o x) : Sim X A E t (getAttr x (attrName f) true) (attrV o f) (VRl X) := by
  refine simOr (simO fun p hp => simO fun y hy => fun H I q e => ?_) (simHp fun H p I hp => simhO fun y hy => fun z' q e => ?_)
  · cases e
    obtain ⟨a, dx, ds, ep, rfl, _, _, h1, h2, hK, hv⟩ := obj_of ro hp
    exact attr_core B I h1 h2 hK hv hy
  · cases e
    obtain ⟨q, rfl, _, ds, ep, h1, h2, hK, hv⟩ := ins_of I ro hp
    exact attr_core B I h1 h2 hK hv hy

theorem setAttr_sim (B : Base X) {f : Nat} (ro : VRl X t o x) (rv : VRl X t v z) : Sim X A E t (setAttr x (attrName f) z) (setAttrV o f v) (fun z' z' z' => True) := by
  refine simHp fun H p I hp => simhO fun j hj => simhGd fun hlt => fun z' q e => ?_
  cases e
  obtain ⟨q, rfl, hq, ds, ep, h1, h2, hK, hv⟩ := ins_of I ro hp
  obtain ⟨k1, k2, _, k5, k6, k7⟩ := B.ko.attr p.2.1 f j hj
  obtain ⟨ds', e1, e2, e3, e4⟩ := put_some (hsh := PyData.keyHash X.w.params (attrName f)) (key := .str (attrName f) (t.s.toks + 1)) (v := z) hK (fld_names hj)
  have hne : q.1 ≠ q.2 := fun c => by rw [c, h2] at h1; cases h1
  have D' : (t.s.heap.update q.2 (Obj.putName (attrName f) (PyData.keyHash X.w.params (attrName f)) (.str (attrName f) (t.s.toks + 1)) z)).get? q.2 = some (dictOf ds' (putN (attrName f) ds ep)) := by
    rw [Heap.get?_update_self _ h2 (by rw [putName_dict]; rfl), putName_dict, e1]
  obtain ⟨I2, x2⟩ := I.upd (o' := .inst p.2.1 (p.2.2.set j v)) (h' := t.s.heap.update q.2 (Obj.putName (attrName f) (PyData.keyHash X.w.params (attrName f)) (.str (attrName f) (t.s.toks + 1)) z)) (t.s.toks + 1 + 1) hq
    (fun b x z' hb e => by rw [Heap.get?_update_other _ _ (Ne.symm hb)]; exact e) (by rw [Heap.size_after_update]; exact Nat.le_refl _)
    (fun m => ⟨ds', _, by show (t.s.heap.update _ _).get? _ = _; rw [Heap.get?_update_other _ _ (Ne.symm hne)]; exact h1, D', e2, by rw [e3]; exact (VRs.mv m _ _ hv).set j (VR.mv m _ _ rv)⟩)
  have hlen : ds.length ≤ 1000 := by
    rw [← hK.length]
    unfold fnames
    rw [List.length_map]
    exact Nat.le_trans fields_le (by decide)
  exact setAttr_core (B.kin.keeps I.keep) h1 h2 k6 k7 k5 k2 (keys_noRef hK) hlen ⟨_, rfl, x2.no, I2, trivial⟩

theorem recv_own (B : Base X) (I : Inv X t H) {m f : Nat} {pl : Sem Bool} (ro : VRl X t o x) (e : recvK o m H = some (some f)) : Wp X A (getMethod x (methName m) pl) (fun r s => r = (.ref f, [x]) ∧ s = t.s) t.s ∧ keepIn X.K (.ref f) = true := by
  have core : ∀ {C : Nat} {a dx : Addr} {ds : List DictEntry} {ep : Nat}, methIx C m = some f → t.s.heap.get? a = some (instObj C dx) → t.s.heap.get? dx = some (dictOf ds ep) → KeysR X.w.params (fnames C) ds →
      Wp X A (getMethod (.ref a) (methName m) pl) (fun r s => r = (.ref f, [.ref a]) ∧ s = t.s) t.s ∧ keepIn X.K (.ref f) = true := fun hm h1 h2 hK => by
    obtain ⟨k1, k2, k3, k4⟩ := B.ko.meth _ m f hm
    refine ⟨method_fn (B.kin.keeps I.keep) (instAt_of h1 h2) (plainGet_of k1).1 (plainGet_of k1).2 k2 (beq_iff_eq.mp k3) ?_ ⟨rfl, rfl⟩, k4⟩
    show (lookIn _ (dictOf _ _)).map _ = _
    rw [lookIn_dict, getL_none hK (meth_names hm)]; rfl
  cases o with
  | obj C vs =>
    obtain ⟨f', hf, e⟩ := Option.map_eq_some_iff.mp e
    cases e
    obtain ⟨a, dx, ds, ep, rfl, _, _, h1, h2, hK, hv⟩ := ro
    exact core hf h1 h2 hK
  | ref i =>
    obtain ⟨ob, ho, e⟩ := Option.bind_eq_some_iff.mp e
    cases ob with
    | inst C vs =>
      obtain ⟨f', hf, e⟩ := Option.map_eq_some_iff.mp e
      cases e
      obtain ⟨q, hq, rfl⟩ := ro
      obtain ⟨q', hq', ds, ep, h1, h2, hK, hv⟩ := I.objs _ _ ho
      rw [hq] at hq'; cases hq'
      exact core hf h1 h2 hK
    | list vs =>
      have e : (if m ≤ 2 then some none else none : Option (Option Nat)) = some (some f) := e
      split at e <;> cases e
  | str s =>
    have e : (if m = 3 ∨ m = 4 then some none else none : Option (Option Nat)) = some (some f) := e
    split at e <;> cases e
  | dict k vs =>
    have e : (if m = 5 then some none else none : Option (Option Nat)) = some (some f) := e
    split at e <;> cases e
  | none => cases e
  | undef => cases e
  | bool _ => cases e
  | int _ => cases e
  | tup _ => cases e
  | rng _ _ => cases e
end
end

section

section
variable {X : Cf} {A : Around} {E : Addr → Prop} {t : St} {H : Hp} {o i v : V} {x y z : Value}

theorem recv_bi (I : Inv X t H) {m : Nat} {pl : Sem Bool} (ro : VRl X t o x) (e : recvK o m H = some none) : Wp X A (getMethod x (methName m) pl) (fun r s => r = (.builtin (methId m), [x]) ∧ s = t.s) t.s := by
  cases o with
  | obj C vs => obtain ⟨_, _, e⟩ := Option.map_eq_some_iff.mp e; cases e
  | ref i =>
    obtain ⟨ob, ho, e⟩ := Option.bind_eq_some_iff.mp e
    cases ob with
    | inst C vs => obtain ⟨_, _, e⟩ := Option.map_eq_some_iff.mp e; cases e
    | list vs =>
      have e : (if m ≤ 2 then some none else none : Option (Option Nat)) = some none := e
      split at e
      · rename_i hm
        obtain ⟨a, ys, rfl, _, ⟨n, hg⟩, hv, hz⟩ := lst_of (p := (i, vs)) I ro (by show ((H[i]?.bind listO).map fun vs => (i, vs)) = _; rw [ho]; rfl)
        have hd : ∀ b, Value.ref a = .ref b → ∃ o, t.s.heap.get? b = some o ∧ o.dict = none := fun b eb => by cases eb; exact ⟨_, hg, rfl⟩
        match m, hm with
        | 0, _ => exact getMethod_builtin ⟨_, hg, rfl⟩ F.plainAttrs_list slot_list_append F.type_list_append hd ⟨rfl, rfl⟩
        | 1, _ => exact getMethod_builtin ⟨_, hg, rfl⟩ F.plainAttrs_list F.slot_list_extend F.type_list_extend hd ⟨rfl, rfl⟩
        | 2, _ => exact getMethod_builtin ⟨_, hg, rfl⟩ F.plainAttrs_list F.slot_list_pop F.type_list_pop hd ⟨rfl, rfl⟩
        | n + 3, h => exact absurd h (by omega)
      · cases e
  | str s =>
    have e : (if m = 3 ∨ m = 4 then some none else none : Option (Option Nat)) = some none := e
    split at e
    · rename_i hm
      obtain ⟨z, k, rfl⟩ := ro
      rcases hm with rfl | rfl
      · exact GM.join ⟨rfl, rfl⟩
      · exact GM.find ⟨rfl, rfl⟩
    · cases e
  | dict k vs =>
    have e : (if m = 5 then some none else none : Option (Option Nat)) = some none := e
    split at e
    · rename_i hm
      subst hm
      obtain ⟨a, ds, ep, rfl, _, hs, hg, hK, hv⟩ := ro
      exact getMethod_builtin ⟨_, hg, rfl⟩ F.plainAttrs_dict F.slot_dict_get F.type_dict_get (fun b eb => by cases eb; exact ⟨_, hg, rfl⟩) ⟨rfl, rfl⟩
    · cases e
  | none => cases e
  | undef => cases e
  | bool _ => cases e
  | int _ => cases e
  | tup _ => cases e
  | rng _ _ => cases e

theorem setIdx_sim (ro : VRl X t o x) (ri : VRl X t i y) (rv : VRl X t v z) : Sim X A E t (setItem x y z) (setIdxV o i v) (fun z' z' z' => True) := by
  refine simHp fun H l I hl => simhO fun k hk => simhO fun j hj => fun z' q e => ?_
  cases e
  obtain ⟨a, xs, rfl, hp, ⟨n, ho⟩, hv, hz⟩ := lst_of I ro hl
  obtain ⟨u, rfl⟩ := int_of ri hk
  obtain ⟨p1, p2, p3, p4⟩ := place_lt hj
  have hlen := hv.length
  have zz : SZ = 100000 := rfl
  have fin : QQ E t (fun u a => Inv X u (H.set l.1 (.list (l.2.set j v))) ∧ True) () { t.s with heap := t.s.heap.update a (Obj.mapSeq (·.setIfInBounds j z)) } :=
    QQ.updList I (f := (·.setIfInBounds j z)) (ys := xs.set j z) hp ⟨n, ho⟩ (by simp) (hv.set j rv) (by rw [List.length_set]; exact hz) fun z' z' => trivial
  rcases p4 with ⟨h0, hk⟩ | ⟨h0, hk⟩
  · subst hk
    exact ki_setAt (items := xs.toArray) (n := n) ho h0 (by omega) (by rw [List.size_toArray, ← hlen]; exact p3) fin
  · have e : (k + (xs.toArray.size : Int)).toNat = j := by rw [List.size_toArray, ← hlen]; exact hk
    subst e
    exact ki_setBack (items := xs.toArray) (n := n) ho h0 (by rw [List.size_toArray, ← hlen]; exact p2) (by omega) fin
end
end

section

abbrev sz (s : Shared) : Nat := s.heap.objs.size

theorem runs_size {M : Model} {Γ : Ctx} {p : Pos} {t : Sem Fin} {fs : List Frame} {s s' : Shared} {e : End} (h : Runs M Γ p t fs s e s') : s.heap.objs.size ≤ s'.heap.objs.size := by
  induction h <;> (try simp only [Shared.setGen, Heap.size_push, Heap.size_after_update] at *) <;> omega

theorem returns_size {M : Model} {Γ : Ctx} {p : Pos} {s s' : Shared} {r : Result} (h : Returns M Γ p s r s') : s.heap.objs.size ≤ s'.heap.objs.size := runs_size h

theorem wakes_size {M : Model} {Γ : Ctx} {p : Pos} {g : Nat} {r : Resume} {s s' : Shared} {res : GenResult} (h : Wakes M Γ p g r s res s') : s.heap.objs.size ≤ s'.heap.objs.size := by
  unfold Wakes at h
  split at h
  · exact h.elim
  · split at h
    · obtain ⟨e₁, s₁, hr, _, _, rfl⟩ := h; exact (runs_size hr : (s.setGen g .running).heap.objs.size ≤ s₁.heap.objs.size)
    · rw [h.2]; exact Nat.le_refl _
    · rw [h.2]; exact Nat.le_refl _
  · obtain ⟨e₁, s₁, hr, _, _, rfl⟩ := h; exact (runs_size hr : (s.setGen g .running).heap.objs.size ≤ s₁.heap.objs.size)
  · rw [h.2]; exact Nat.le_refl _
  · rw [h.2]; exact Nat.le_refl _

theorem wp_size {α : Type} (M : Model) (Γ : Ctx) (n : Nat) (t : Sem α) : ∀ (Q : α → Pos → Shared → Prop) (E : Value → Pos → Shared → Prop) (p : Pos) (s : Shared), n ≤ s.heap.objs.size → Sem.wp M Γ t Q E p s →
    Sem.wp M Γ t (fun a p' s' => n ≤ s'.heap.objs.size ∧ Q a p' s') (fun e p' s' => n ≤ s'.heap.objs.size ∧ E e p' s') p s := by
  induction t with
  | pure a => intro Q E p s hn h; exact ⟨hn, h⟩
  | raise e => intro Q E p s hn h; exact ⟨hn, h⟩
  | unsupported _ => intro Q E p s _ h; exact h
  | finish _ => intro Q E p s _ h; exact h
  | rule _ k ih => intro Q E p s hn h; exact ih () Q E p s hn h
  | «at» p' k ih => intro Q E p s hn h; exact ih () Q E p' s hn h
  | load a _ k ih => intro Q E p s hn h; obtain ⟨o, ho, h⟩ := h; exact ⟨o, ho, ih o Q E p s hn h⟩
  | update a _ f k ih => intro Q E p s hn h; exact ⟨h.1, ih () Q E p _ (by simpa only [Heap.size_after_update] using hn) h.2⟩
  | loadIfAlive a k ih => intro Q E p s hn h; exact ih _ Q E p s hn h
  | point _ k ih => intro Q E p s hn h; exact ih () Q E p s hn h
  | register _ _ => intro Q E p s _ h; exact h
  | alloc o k ih => intro Q E p s hn h; exact ih _ Q E p _ (by simpa only [Heap.size_push] using Nat.le_succ_of_le hn) h
  | fresh k ih => intro Q E p s hn h; exact ih _ Q E p _ hn h
  | ask k ih => intro Q E p s hn h; exact ih _ Q E p s hn h
  | choose src m k ih => intro Q E p s hn h; exact ⟨h.1, ih _ Q E p _ hn h.2⟩
  | os q _ k ih => intro Q E p s hn h; exact ih _ Q E p _ hn h
  | call c hd _ _ k ih => intro Q E p s hn h; obtain ⟨r, s', hr, h⟩ := h; exact ⟨r, s', hr, ih r Q E p s' (Nat.le_trans hn (returns_size hr)) h⟩
  | handled own k ih => intro Q E p s hn h; exact ih _ Q E p s hn h
  | genState g k ih => intro Q E p s hn h; obtain ⟨st, hs, h⟩ := h; exact ⟨st, hs, ih _ Q E p s hn h⟩
  | newGen c k ih => intro Q E p s hn h; exact ih _ Q E p _ hn h
  | resume g r _ k ih => intro Q E p s hn h; obtain ⟨res, s', hw, h⟩ := h; exact ⟨res, s', hw, ih res Q E p s' (Nat.le_trans hn (wakes_size hw)) h⟩
  | yield _ _ _ _ => intro Q E p s _ h; exact h
  | stack k ih => intro Q E p s hn h; exact ih _ Q E p s hn h
  | fork _ _ => intro Q E p s _ h; exact h
  | thread k ih => intro Q E p s hn h; exact ih _ Q E p s hn h
  | await _ _ _ _ _ => intro Q E p s _ h; exact h

theorem wpAny_sz {α : Type} {M : Model} {A : Around} {s : Shared} {t : Sem α} {Q : α → Shared → Prop} {E : Value → Shared → Prop}
    (h : wpAny M A t (fun a s' => sz s ≤ sz s' → Q a s') (fun e s' => sz s ≤ sz s' → E e s') s) : wpAny M A t Q E s := by
  have h' : wpAny M A t (fun a s' => sz s ≤ sz s' ∧ (sz s ≤ sz s' → Q a s')) (fun e s' => sz s ≤ sz s' ∧ (sz s ≤ sz s' → E e s')) s :=
    fun Γ p hΓ => wp_size M Γ (sz s) t _ _ p s (Nat.le_refl _) (h Γ p hΓ)
  exact wpAny_mono h' (fun z' z' x => x.2 x.1) (fun z' z' x => x.2 x.1)
end

section

def ItR (P : Params) (t : St) (J : Addr) : V → Nat → Prop
  | .str s, n => StrV s ∧ ∃ k, t.s.heap.IsStrIter J "str_ascii_iterator" (toStr s) k n ∨ t.s.heap.IsStrIter J "str_iterator" (toStr s) k n
  | .tup vs, n => ∃ a xs, t.s.heap.IsTupleIter J a n ∧ ¬ t.W a ∧ t.s.heap.IsTuple a (List.toArray xs) ∧ VRs P t vs xs
  | .rng lo hi, n => IsRangeIter t.s.heap J (lo + n) (max 0 (hi - lo) - n) 1
  | .ref i, n => ∃ a, t.α[i]? = some (a, a) ∧ t.s.heap.IsListIter J a n
  | _, _ => False
structure ItAt (X : Cf) (t : St) (J : Addr) (o : V) (n : Nat) : Prop where
  w : t.W J
  off : ¬ Foot t.α J
  lt : J < t.s.heap.objs.size
  it : ItR X.w.params t J o n

section
variable {X : Cf} {A : Around} {E : Addr → Prop} {t u : St} {H : Hp} {o v : V} {x y : Value} {J : Addr} {n : Nat}

theorem ItR.mv {P : Params} (m : Mv t u) (k : ∀ o, t.s.heap.get? J = some o → u.s.heap.get? J = some o) (r : ItR P t J o n) : ItR P u J o n := by
  cases o with
  | str l =>
    obtain ⟨z, k', h | h⟩ := r
    · obtain ⟨o, ho, q⟩ := h; exact ⟨z, k', .inl ⟨o, k o ho, q⟩⟩
    · obtain ⟨o, ho, q⟩ := h; exact ⟨z, k', .inr ⟨o, k o ho, q⟩⟩
  | tup vs =>
    obtain ⟨a, xs, ⟨o, ho, q⟩, hw, ⟨o', ho', q'⟩, hv⟩ := r
    exact ⟨a, xs, ⟨o, k o ho, q⟩, fun z => hw (m.w a _ ho' z), ⟨o', m.k a _ ho' hw, q'⟩, VRs.mv m _ _ hv⟩
  | rng lo hi => exact k _ r
  | ref i =>
    obtain ⟨a, hp, ⟨o, ho, q⟩⟩ := r
    exact ⟨a, m.a _ _ hp, ⟨o, k o ho, q⟩⟩
  | none => exact r.elim
  | undef => exact r.elim
  | bool _ => exact r.elim
  | int _ => exact r.elim
  | dict _ _ => exact r.elim
  | obj _ _ => exact r.elim
theorem ItAt.ext (i : ItAt X t J o n) (e : Ext E t u) (hJ : ¬ E J) : ItAt X u J o n :=
  ⟨e.wmono _ i.w, fun z => i.off (e.footOld i.lt z), Nat.lt_of_lt_of_le i.lt e.size, i.it.mv e.mv fun o g => e.keeps J o g i.off hJ⟩

theorem it_push (I : Inv X t H) {ob : Obj} {k : Nat} (h : ∀ u : St, u.s.heap = t.s.heap.push ob → Mv t u → ItR X.w.params u t.s.heap.objs.size o 0) :
    QQ noX t (fun u (a : Value) => Inv X u H ∧ ∃ J, a = Value.ref J ∧ t.s.heap.objs.size ≤ J ∧ ItAt X u J o 0) (Value.ref t.s.heap.objs.size) { t.s with heap := t.s.heap.push ob } := by
  have hlt : t.s.heap.objs.size < (t.s.heap.push ob).objs.size := by rw [Heap.size_push]; exact Nat.lt_succ_self _
  obtain ⟨I2, e⟩ := I.watch (h' := t.s.heap.push ob) (L := t.s.heap.objs.size) t.s.toks (fun b x g => Heap.get?_push_of_some _ g) (Nat.le_refl _) hlt
  exact ⟨_, rfl, e, I2, _, rfl, Nat.le_refl _, .inr rfl, fun z => Nat.lt_irrefl _ (I.wlt _ (I.footW z)), hlt, h _ rfl e.mv⟩

theorem it_start (I : Inv X t H) (ro : VRl X t o x) (e : (itemAt o 0 H).isSome) : Sat X A noX t (pyIter x) fun u a => Inv X u H ∧ ∃ J, a = .ref J ∧ t.s.heap.objs.size ≤ J ∧ ItAt X u J o 0 := by
  cases o with
  | str l =>
    obtain ⟨z, k, rfl⟩ := ro
    cases ha : (toStr l).cps.all (· < 128)
    · exact wpAny_pyIter_wide ha (it_push (k := 0) I fun u h z' => ⟨z, k, .inr ⟨_, by rw [h]; exact Heap.get?_push_size _ rfl, rfl, rfl⟩⟩)
    · exact wpAny_pyIter_ascii ha (it_push (k := 0) I fun u h z' => ⟨z, k, .inl ⟨_, by rw [h]; exact Heap.get?_push_size _ rfl, rfl, rfl⟩⟩)
  | tup vs =>
    obtain ⟨hz, a, xs, rfl, hw, ⟨o', ho', q'⟩, hv⟩ := ro
    exact wpAny_pyIter_tuple ⟨o', ho', q'⟩ (it_push (k := 0) I fun u h m => ⟨a, xs, ⟨_, by rw [h]; exact Heap.get?_push_size _ rfl, rfl, rfl⟩, fun z => hw (m.w a _ ho' z), ⟨o', m.k a _ ho' hw, q'⟩, VRs.mv m _ _ hv⟩)
  | rng lo hi =>
    obtain ⟨a, k, u, v, rfl, hw, hr, b1, b2, b3, b4⟩ := ro
    have es : SMALL = 4611686018427387904 := by decide
    have hs : Builtin.Range.rangeSize lo hi 1 = max 0 (hi - lo) := by
      unfold Builtin.Range.rangeSize
      rw [if_pos (by decide)]
      split
      · rw [Int.ediv_one]; omega
      · omega
    refine wpAny_pyIter_range hr ?_ (it_push (k := 0) I fun u h z' => ?_)
    · unfold Builtin.Range.small
      rw [hs]
      unfold Builtin.Range.rangeFitsLong
      simp only [Bool.and_eq_true, Bool.or_eq_true, decide_eq_true_eq, beq_iff_eq]
      refine ⟨⟨⟨⟨⟨by omega, by omega⟩, by omega, by omega⟩, by omega, by omega⟩, by omega, by omega⟩, .inr ?_⟩
      rw [if_pos (by decide)]
      simp only [Bool.and_eq_true, decide_eq_true_eq]
      omega
    · show IsRangeIter _ _ (lo + (0 : Nat)) (max 0 (hi - lo) - (0 : Nat)) 1
      rw [h, hs, show (lo + ((0 : Nat) : Int)) = lo from Int.add_zero _, show (max 0 (hi - lo) - ((0 : Nat) : Int)) = max 0 (hi - lo) from Int.sub_zero _]
      exact Heap.get?_push_size _ rfl
  | ref i =>
    cases hl : H[i]?.bind listO with
    | none =>
      have e : ((H[i]?.bind listO).map fun vs => vs[0]?).isSome = true := e
      rw [hl] at e; cases e
    | some vs =>
      obtain ⟨a, ys, rfl, hp, hl, hv, hz⟩ := lst_of (p := (i, vs)) I ro (by show ((H[i]?.bind listO).map fun vs => (i, vs)) = _; rw [hl]; rfl)
      exact wpAny_pyIter_list hl.isList (it_push (k := 0) I fun u h m => ⟨a, m.a _ _ hp, ⟨_, by rw [h]; exact Heap.get?_push_size _ rfl, rfl, rfl⟩⟩)
  | none => cases e
  | undef => cases e
  | bool _ => cases e
  | int _ => cases e
  | dict _ _ => cases e
  | obj _ _ => cases e
end
end

section

section
variable {X : Cf} {A : Around} {E : Addr → Prop} {t u : St} {H : Hp} {o v : V} {x y : Value} {J : Addr} {n : Nat}

def NextOk (X : Cf) (J : Addr) (o : V) (n : Nat) (H : Hp) (r : Option V) (u : St) (a : Option Value) : Prop :=
  Inv X u H ∧ match r with
    | some v => ∃ y, a = some y ∧ VRl X u v y ∧ ItAt X u J o (n + 1)
    | none => a = none

theorem next_end (I : Inv X t H) (i : ItAt X t J o n) {h' : Heap} (he : Heap.ExtBut J t.s.heap h') (hs : sz t.s ≤ h'.objs.size) : QQ (· = J) t (NextOk X J o n H none) none { t.s with heap := h' } := by
  obtain ⟨I2, e2⟩ := I.turn (h' := h') t.s.toks i.w i.off he hs
  exact ⟨_, rfl, e2, I2, rfl⟩
theorem next_item (I : Inv X t H) (i : ItAt X t J o n) {h' : Heap} {tk : Nat} {v : V} {y : Value} (he : Heap.SameBut J t.s.heap h') (h : ∀ u : St, u.s.heap = h' → u.α = t.α → Ext (· = J) t u → VRl X u v y ∧ ItR X.w.params u J o (n + 1)) :
    QQ (· = J) t (NextOk X J o n H (some v)) (some y) { t.s with heap := h', toks := tk } := by
  have hz : t.s.heap.objs.size ≤ h'.objs.size := Nat.le_of_eq he.1.symm
  obtain ⟨I2, e2⟩ := I.turn (h' := h') tk i.w i.off he.extBut hz
  obtain ⟨r1, r2⟩ := h ⟨{ t.s with heap := h', toks := tk }, t.α, t.W⟩ rfl rfl e2
  exact ⟨_, rfl, e2, I2, y, rfl, r1, i.w, i.off, Nat.lt_of_lt_of_le i.lt hz, r2⟩

theorem it_next (hh : A.handled = none) (I : Inv X t H) (i : ItAt X t J o n) {r : Option V} (e : itemAt o n H = some r) : Sat X A (· = J) t (pyNext (.ref J)) (NextOk X J o n H r) := by
  have it := i.it
  cases o with
  | str l =>
    obtain ⟨z, k, q⟩ := it
    have e : some ((l[n]?).map fun c => V.str [c]) = some r := e
    cases hc : l[n]? with
    | none =>
      rw [hc] at e; cases e
      rcases q with q | q
      · exact wpAny_sz (wpAny_pyNext_ascii_end hh q (by simpa [toStr] using hc) fun h' p g => next_end I i p g)
      · exact wpAny_sz (wpAny_pyNext_wide_end hh q (by simpa [toStr] using hc) fun h' p g => next_end I i p g)
    | some c =>
      rw [hc] at e; cases e
      have zc : StrV [c] := ⟨by show 1 ≤ 100000; decide, fun d hd => by rw [List.mem_singleton.mp hd]; exact z.2 c (List.mem_of_getElem? hc)⟩
      rcases q with q | q
      · exact wpAny_pyNext_ascii_item q (c := c) (by simpa [toStr] using hc) fun h' r' p => next_item I i p fun u h z' z' => ⟨vr_str zc _, z, k, .inl (h ▸ r')⟩
      · exact wpAny_pyNext_wide_item q (c := c) (by simpa [toStr] using hc) fun h' r' p => next_item I i p fun u h z' z' => ⟨vr_str zc _, z, k, .inr (h ▸ r')⟩
  | tup vs =>
    obtain ⟨a, xs, q, hw, ht, hv⟩ := it
    have e : some vs[n]? = some r := e
    have hlen := hv.length
    cases hc : vs[n]? with
    | none =>
      rw [hc] at e; cases e
      refine wpAny_sz (wpAny_pyNext_tuple_end hh q ht ?_ fun h' p g => next_end I i p g)
      rw [List.getElem?_eq_none_iff] at hc
      rw [List.getElem?_toArray, List.getElem?_eq_none_iff, ← hlen]; exact hc
    | some c =>
      rw [hc] at e; cases e
      obtain ⟨y, hy, ry⟩ := hv.get hc
      refine wpAny_pyNext_tuple_item q ht (by rw [List.getElem?_toArray]; exact hy) fun h' r' p => next_item I i p fun u h z' e2 => ⟨e2.vr ry, a, xs, h ▸ r', ?_⟩
      obtain ⟨o', ho', q'⟩ := ht
      exact ⟨fun z => hw (e2.mv.w a _ ho' z), ⟨o', e2.keepsV a _ ho' hw, q'⟩, e2.vrs hv⟩
  | rng lo hi =>
    have e : some (if lo + n < hi then some (V.int (lo + n)) else none) = some r := e
    by_cases hlt : lo + n < hi
    · rw [if_pos hlt] at e; cases e
      refine wpAny_pyNext_range_item it (by omega) fun h' r' p => next_item I i p fun u h z' z' => ⟨vr_int _ _, ?_⟩
      show IsRangeIter u.s.heap J (lo + ((n + 1 : Nat) : Int)) (max 0 (hi - lo) - ((n + 1 : Nat) : Int)) 1
      rw [h, show lo + ((n + 1 : Nat) : Int) = lo + n + 1 by omega, show max 0 (hi - lo) - ((n + 1 : Nat) : Int) = max 0 (hi - lo) - n - 1 by omega]
      exact r'
    · rw [if_neg hlt] at e; cases e
      exact wpAny_sz (wpAny_pyNext_range_end hh it (by omega) fun h' p g => next_end I i p g)
  | ref j =>
    obtain ⟨a, hp, q⟩ := it
    have e : ((H[j]?.bind listO).map fun vs => vs[n]?) = some r := e
    cases hl : H[j]?.bind listO with
    | none => rw [hl] at e; cases e
    | some vs =>
      rw [hl] at e
      have e : some vs[n]? = some r := e
      cases e
      obtain ⟨a', ys, ea, hp', hl, hv, hz⟩ := lst_of (v := .ref j) (x := .ref a) (p := (j, vs)) I ⟨(a, a), hp, rfl⟩ (by show ((H[j]?.bind listO).map fun vs => (j, vs)) = _; rw [hl]; rfl)
      cases ea
      have hlen := hv.length
      cases hc : vs[n]? with
      | none =>
        refine wpAny_sz (wpAny_pyNext_list_end hh q hl.isList ?_ fun h' p g => next_end I i p g)
        rw [List.getElem?_eq_none_iff] at hc
        rw [List.getElem?_toArray, List.getElem?_eq_none_iff, ← hlen]; exact hc
      | some c =>
        obtain ⟨y, hy, ry⟩ := hv.get hc
        exact wpAny_pyNext_list_item q hl.isList (by rw [List.getElem?_toArray]; exact hy) fun h' r' p => next_item I i p fun u h ha e2 => ⟨e2.vr ry, a, by rw [ha]; exact hp, h ▸ r'⟩
  | none => cases e
  | undef => cases e
  | bool _ => cases e
  | int _ => cases e
  | dict _ _ => cases e
  | obj _ _ => cases e

theorem next_split {K1 : Shared → Prop} {K2 : Value → Shared → Prop} {E' : Value → Shared → Prop} (hh : A.handled = none) (I : Inv X t H) (i : ItAt X t J o n) {r : Option V} (e : itemAt o n H = some r) (h1 : r = none → ∀ u, Inv X u H → Ext (· = J) t u → K1 u.s)
    (h2 : ∀ v, r = some v → ∀ u y, Inv X u H → Ext (· = J) t u → VRl X u v y → ItAt X u J o (n + 1) → K2 y u.s) : wpAny (model X.prog X.w) A (pyNext (.ref J)) (fun r s => match r with
      | none => K1 s
      | some v => K2 v s) E' t.s :=
  Sat.then (it_next hh I i e) fun u a e1 q => by
    cases r with
    | none => rw [show a = none from q.2]; exact h1 rfl u q.1 e1
    | some v =>
      obtain ⟨y, ha, ry, it⟩ := q.2
      rw [ha]; exact h2 v rfl u y q.1 e1 ry it
theorem it_self {Q : Value → Shared → Prop} {E' : Value → Shared → Prop} (i : ItAt X t J o n) (h : Q (.ref J) t.s) : wpAny (model X.prog X.w) A (pyIter (.ref J)) Q E' t.s := by
  have it := i.it
  cases o with
  | str l =>
    obtain ⟨z, k, r | r⟩ := it
    · exact wpAny_pyIter_striter_ascii r h
    · exact wpAny_pyIter_striter_wide r h
  | tup vs => obtain ⟨a, xs, r, _⟩ := it; exact wpAny_pyIter_tupleiter r h
  | rng lo hi => exact wpAny_pyIter_rangeiter it h
  | ref i => obtain ⟨a, hp, r⟩ := it; exact wpAny_pyIter_listiter r h
  | none => exact it.elim
  | undef => exact it.elim
  | bool _ => exact it.elim
  | int _ => exact it.elim
  | dict _ _ => exact it.elim
  | obj _ _ => exact it.elim
end
end

section
section
variable {X : Cf} {A : Around} {t : St} {o : V} {J : Addr}
theorem letGo_snd {g : Expr} {m : Nat} {v : Value} {Q : Unit → Shared → Prop} {E' : Value → Shared → Prop} (i : ItAt X t J o m) (h : Q () t.s) : wpAny (model X.prog X.w) A (letOwnedTupleGo g (.ref J) v) Q E' t.s := by
  have r := i.it
  have core : ∀ (ob : Obj) (nm : String) (vs : Array Value), t.s.heap.get? J = some ob → ob.cls = .type nm → ob.data = .fields vs → (["enumerate", "zip", "dict_itemiterator", "dict_reverseitemiterator", "odict_iterator", "itertools.zip_longest", "itertools.pairwise"].contains nm) = false →
      wpAny (model X.prog X.w) A (letOwnedTupleGo g (.ref J) v) Q E' t.s := by
    intro ob nm vs ho hc hd hn
    unfold letOwnedTupleGo
    have fin : ∀ a : Addr, wpAny (model X.prog X.w) A (do
        let o ← load J
        match o.cls, o.data with
        | .type n, .fields vs =>
          if ["enumerate", "zip", "dict_itemiterator", "dict_reverseitemiterator", "odict_iterator", "itertools.zip_longest", "itertools.pairwise"].contains n && vs[0]? == some (rawInt a) then
            rule "for.unpacks-the-owned-tuple"
            updateField J 0 .none
        | _, _ => pure ()) Q E' t.s := fun a => by
      refine wpAny_bind (wpAny_load ho ?_)
      rw [hc, hd]
      show wpAny _ A (if (["enumerate", "zip", "dict_itemiterator", "dict_reverseitemiterator", "odict_iterator", "itertools.zip_longest", "itertools.pairwise"].contains nm && vs[0]? == some (rawInt a)) = true then _ else _) Q E' t.s
      rw [hn, Bool.false_and]
      exact wpAny_pure h
    split
    · split
      · rename_i he
        cases he
        exact fin _
      · exact wpAny_pure h
    · split
      · rename_i he
        cases he
        exact fin _
      · exact wpAny_pure h
    · exact wpAny_pure h
  cases o with
  | str l =>
    obtain ⟨z, u, ⟨ob, h1, h2, h3⟩ | ⟨ob, h1, h2, h3⟩⟩ := r
    · exact core ob _ _ h1 h2 h3 (by decide)
    · exact core ob _ _ h1 h2 h3 (by decide)
  | tup vs => obtain ⟨a, xs, ⟨ob, h1, h2, h3⟩, _⟩ := r; exact core ob _ _ h1 h2 h3 (by decide)
  | rng lo hi => exact core _ _ _ r rfl rfl (by decide)
  | ref i => obtain ⟨a, hp, ⟨ob, h1, h2, h3⟩⟩ := r; exact core ob _ _ h1 h2 h3 (by decide)
  | none => exact r.elim
  | undef => exact r.elim
  | bool _ => exact r.elim
  | int _ => exact r.elim
  | dict _ _ => exact r.elim
  | obj _ _ => exact r.elim

end
end

section

inductive Gv where | fn (a : Nat) | bi (b : Bi) | lit (v : V)
structure Cx where
  ls : List Str
  nm : List (Str × NameKind)
  G : List (Str × Gv)

noncomputable def toN : List N → N
  | [] => .nil
  | e :: es => .cons e (toN es)
noncomputable def boolN (op : BoolOp) : List N → N
  | [] => .bad
  | x :: xs => match xs with
    | [] => x
    | _ => match op with
      | .And => .and x (boolN op xs)
      | .Or => .or x (boolN op xs)
section
variable {α : Type}
noncomputable def oN (o : Option α) (f : α → N) : N := match o with
  | some a => f a
  | none => .bad
noncomputable def gN (b : Bool) (n : N) : N := match b with
  | true => n
  | false => .bad
noncomputable def oneL : List α → Option α
  | [x] => some x
  | _ => none
noncomputable def twoL : List α → Option (α × α)
  | [x, y] => some (x, y)
  | _ => none
theorem oneL_eq : ∀ {l : List α} {x : α}, oneL l = some x → l = [x]
  | [_], _, e => by cases e; rfl
theorem twoL_eq : ∀ {l : List α} {x : α × α}, twoL l = some x → l = [x.1, x.2]
  | [_, _], _, e => by cases e; rfl
end
noncomputable def strL (s : Str) : Option (List Nat) := if s.cps.toList.length ≤ SZ ∧ s.cps.toList.all (· < 1114112) = true then some s.cps.toList else none
noncomputable def strP : (c : Const) → Option {s : Str // c = .str s}
  | .str s => some ⟨s, rfl⟩
  | _ => none
noncomputable def constP : (e : Expr) → Option {q : Const × Nat × Pos // e = .Constant q.1 q.2.1 q.2.2}
  | .Constant c k p => some ⟨(c, k, p), rfl⟩
  | _ => none
noncomputable def nameP : (e : Expr) → Option {q : Str × Pos // e = .Name q.1 q.2}
  | .Name x p => some ⟨(x, p), rfl⟩
  | _ => none
noncomputable def attrP : (e : Expr) → Option {q : Expr × Str × Pos // e = .Attribute q.1 q.2.1 q.2.2}
  | .Attribute o a p => some ⟨(o, a, p), rfl⟩
  | _ => none
noncomputable def tupP : (e : Expr) → Option {q : List Expr × Nat × Pos // e = .Tuple q.1 q.2.1 q.2.2}
  | .Tuple es k p => some ⟨(es, k, p), rfl⟩
  | _ => none
noncomputable def sliceP : (e : Expr) → Option {q : Option Expr × Option Expr × Option Expr × Pos // e = .Slice q.1 q.2.1 q.2.2.1 q.2.2.2}
  | .Slice a b c p => some ⟨(a, b, c, p), rfl⟩
  | _ => none
noncomputable def lcP : (e : Expr) → Option {q : Expr × List Comprehension × Scope × Pos // e = .ListComp q.1 q.2.1 q.2.2.1 q.2.2.2}
  | .ListComp a b c p => some ⟨(a, b, c, p), rfl⟩
  | _ => none
noncomputable def strC (c : Const) : Option (List Nat) := (strP c).bind fun s => strL s.1
noncomputable def strE (e : Expr) : Option (List Nat) := (constP e).bind fun q => strC q.1.1
noncomputable def nameE (e : Expr) : Option Str := (nameP e).map fun q => q.1.1
noncomputable def attrE (e : Expr) : Option (Expr × Str × Pos) := (attrP e).map fun q => q.1
theorem nameE_eq {e : Expr} {x : Str} (h : nameE e = some x) : ∃ p, e = .Name x p := by
  obtain ⟨q, _, rfl⟩ := Option.map_eq_some_iff.mp h
  exact ⟨_, q.2⟩
theorem attrE_eq {e : Expr} {q : Expr × Str × Pos} (h : attrE e = some q) : e = .Attribute q.1 q.2.1 q.2.2 := by
  obtain ⟨q, _, rfl⟩ := Option.map_eq_some_iff.mp h
  exact q.2
noncomputable def cConst : Const → N
  | .none => .lit .none
  | .bool b => .lit (.bool b)
  | .int i => .lit (.int i)
  | .str s => oN (strL s) fun l => .lit (.str l)
  | _ => .bad
noncomputable def localIx (cx : Cx) (x : Str) : Option Nat := if cx.nm.lookup x = some .local then cx.ls.idxOf? x else none
noncomputable def globOf (cx : Cx) (x : Str) : Option Gv := if cx.nm.lookup x = some .globalImplicit then cx.G.lookup x else none
noncomputable def isDbg (x : Str) : Bool := x == ("__debug__" : Str)
noncomputable def litG : Gv → Option V
  | .lit v => some v
  | _ => none
noncomputable def cName (cx : Cx) (x : Str) : N := match isDbg x with
  | true => .bad
  | false => match localIx cx x with
    | some i => .loc i
    | none => oN ((globOf cx x).bind litG) .lit
noncomputable def keysOf : List (Option Expr) → Option (List (List Nat))
  | [] => some []
  | k :: ks => (k.bind strE).bind fun l => (keysOf ks).map (l :: ·)
noncomputable def valsOf : List Expr → Option (List V)
  | [] => some []
  | k :: ks => (strE k).bind fun l => (valsOf ks).map (V.str l :: ·)
noncomputable def notSet : Expr → Bool
  | .Set .. => false
  | _ => true
noncomputable def isComp : Expr → Bool
  | .ListComp .. | .SetComp .. | .DictComp .. => true
  | _ => false
noncomputable def noSwap : Expr → Bool
  | .Call .. | .Subscript .. => true
  | _ => false
noncomputable def notStar : Expr → Bool
  | .Starred .. => false
  | _ => true
noncomputable def notSuper : Expr → Bool
  | .Call f _ _ _ => match nameE f with
    | some x => x != ("super" : Str)
    | none => true
  | _ => true
noncomputable def genOf (gs : List Comprehension) : Option (Str × Expr × List Expr) := (oneL gs).bind fun g => (nameE g.target).bind fun x => if g.is_async = 0 then some (x, g.iter, g.ifs) else none
theorem genOf_eq {gens : List Comprehension} {g : Str × Expr × List Expr} (h : genOf gens = some g) : ∃ px, gens = [⟨.Name g.1 px, g.2.1, g.2.2, 0⟩] := by
  obtain ⟨⟨t, i, f, k⟩, h1, h⟩ := Option.bind_eq_some_iff.mp h
  obtain ⟨x, h2, h⟩ := Option.bind_eq_some_iff.mp h
  obtain ⟨p, hp⟩ := nameE_eq h2
  by_cases hk : k = 0
  · rw [if_pos hk] at h
    cases h
    exact ⟨p, by rw [oneL_eq h1, ← hp, ← hk]⟩
  · rw [if_neg hk] at h; cases h
noncomputable def scopeOk (sc : Scope) (x : Str) : Bool :=
  decide (sc.kind = .function) && sc.names.all (fun y => decide (y.2 = .local ∨ y.2 = .globalImplicit) && decide (y.2 = .local → sc.names.lookup y.1 = some .local)) && decide (sc.names.lookup x = some .local)
noncomputable def noneO' {α β : Type} (o : Option α) (b : β) : Option β := match o with
  | none => some b
  | some _ => none
noncomputable def sliceE (e : Expr) : Option (Option Expr × Option Expr) := (sliceP e).bind fun q => noneO' q.1.2.2.1 (q.1.1, q.1.2.1)
theorem sliceE_eq {e : Expr} {q : Option Expr × Option Expr} (h : sliceE e = some q) : ∃ p, e = .Slice q.1 q.2 none p := by
  obtain ⟨⟨⟨a, b, c, p⟩, r⟩, _, h⟩ := Option.bind_eq_some_iff.mp h
  cases c <;> cases h
  exact ⟨p, r⟩
noncomputable def noSlice : Expr → Bool
  | .Slice .. => false
  | _ => true
section
variable (F : Expr → N)
noncomputable def partN : Option Expr → N
  | some e => F e
  | none => .lit .none
noncomputable def rowN (es : List Expr) : N := gN (es.all notStar) (toN (es.map F))
noncomputable def cDict (ks : List (Option Expr)) (vs : List Expr) : N := oN (keysOf ks) fun k => oN (valsOf vs) fun l => gN (decide (k.length = l.length ∧ k.length ≤ 15 ∧ k.Nodup)) (.lit (.dict k l))
noncomputable def testsN (ifs : List Expr) : N := match ifs with
  | [] => .lit (.bool true)
  | _ => oN (oneL ifs) F
noncomputable def cCmp (l : Expr) (ops : List CmpOp) (rs : List Expr) : N := match oneL ops with
  | some op => oN (oneL rs) fun r => gN (notSet r) (.cmp op (F l) (F r))
  | none => oN (twoL ops) fun op => oN (twoL rs) fun r => gN (notSet r.1 && notSet r.2) (.cmp2 op.1 op.2 (F l) (F r.1) (F r.2))
noncomputable def callG (args : List Expr) : Gv → N
  | .fn f => .call f (toN (args.map F))
  | .bi b => .bi b (toN (args.map F))
  | .lit _ => .bad
noncomputable def cCall (cx : Cx) (f : Expr) (args : List Expr) (kw : List Keyword) (pos : Pos) : N :=
  gN (kw.isEmpty && args.all notStar) (match nameE f with
    | some x => gN (!isDbg x) (oN (globOf cx x) (callG F args))
    | none => oN (attrE f) fun p => oN (methNames.idxOf? p.2.1) fun m => gN (decide (p.2.2.endLine = pos.line ∧ args.length < 30) && notSuper p.1) (.meth (F p.1) m (toN (args.map F))))
noncomputable def cAttr (o : Expr) (name : Str) : N := oN (attrNames.idxOf? name) fun f => gN (notSuper o) (.attr (F o) f)
noncomputable def cSub (o i : Expr) : N := match noSlice i with
  | true => .idx (F o) (F i)
  | false => oN (sliceE i) fun p => .slc (F o) (partN F p.1) (partN F p.2)
end
noncomputable def cUn (op : UnaryOp) (x : N) : N := match op with
  | .Not => .not x
  | .USub => .neg x
  | _ => .bad
noncomputable def cComp (F : Cx → Expr → N) (cx : Cx) (elt : Expr) (gens : List Comprehension) (sc : Scope) : N :=
  oN (genOf gens) fun g => gN (scopeOk sc g.1 && notSet g.2.1) (.comp (F ⟨[g.1], sc.names, cx.G⟩ elt) (testsN (F ⟨[g.1], sc.names, cx.G⟩) g.2.2) (F cx g.2.1))

noncomputable def cE : Nat → Cx → Expr → N
  | 0, _, _ => .bad
  | d + 1, cx, e => match e with
    | .Constant c _ _ => cConst c
    | .Name x _ => cName cx x
    | .BoolOp op vs _ => boolN op (vs.map (cE d cx))
    | .BinOp l op r _ => .bin op (cE d cx l) (cE d cx r)
    | .UnaryOp op x _ => cUn op (cE d cx x)
    | .IfExp c a b _ => .ite (cE d cx c) (cE d cx a) (cE d cx b)
    | .Dict ks vs _ => cDict ks vs
    | .List es _ => gN (es.all notStar) (.list (toN (es.map (cE d cx))))
    | .Tuple es _ _ => gN (es.all notStar) (.tup (toN (es.map (cE d cx))))
    | .ListComp elt gens sc _ => cComp (cE d) cx elt gens sc
    | .Compare l ops rs _ => cCmp (cE d cx) l ops rs
    | .Call f args kw pos => cCall (cE d cx) cx f args kw pos
    | .Attribute o name _ => cAttr (cE d cx) o name
    | .Subscript o i _ => cSub (cE d cx) o i
    | _ => .bad

noncomputable def namesIx (cx : Cx) : List Expr → Option (List Nat)
  | [] => some []
  | e :: r => ((nameE e).bind (localIx cx)).bind fun i => (namesIx cx r).map (i :: ·)
noncomputable def tupE (e : Expr) : Option (List Expr) := (tupP e).map fun q => q.1.1
theorem tupE_eq {e : Expr} {es : List Expr} (h : tupE e = some es) : ∃ k p, e = .Tuple es k p := by
  obtain ⟨q, _, rfl⟩ := Option.map_eq_some_iff.mp h
  exact ⟨_, _, q.2⟩
noncomputable def cTg (cx : Cx) (t : Expr) : Option (List Nat ⊕ Nat) := match nameE t with
  | some x => (localIx cx x).map .inr
  | none => ((tupE t).bind (namesIx cx)).map .inl
section
variable (F : Expr → N) (cx : Cx)
noncomputable def asgG (v : Expr) (n : N) : N := match lcP v with
  | some _ => n
  | none => gN (!isComp v) n
noncomputable def cAsg (t v : Expr) : N := match t with
  | .Name x _ => oN (localIx cx x) fun i => asgG v (.asg i (F v))
  | .Tuple es _ _ => oN (namesIx cx es) fun is => gN (noSwap v) (.asgM is (F v))
  | .Attribute o name _ => oN (attrNames.idxOf? name) fun f => gN (!isComp v) (.setA (F o) f (F v))
  | .Subscript o i _ => gN (!isComp v && noSlice i) (.setI (F o) (F i) (F v))
  | _ => .bad
noncomputable def cAug (t : Expr) (op : Operator) (v : Expr) : N := match t with
  | .Name x _ => oN (localIx cx x) fun i => .aug i op (F v)
  | .Attribute o name _ => oN (attrNames.idxOf? name) fun f => .augA (F o) f op (F v)
  | .Subscript o i _ => gN (noSlice i) (.augI (F o) (F i) op (F v))
  | _ => .bad
end
noncomputable def rtnN (F : Expr → N) (e : Option Expr) : N := .rtn (partN F e)

noncomputable def cS : Nat → Cx → Stmt → N
  | 0, _, _ => .bad
  | d + 1, cx, s => match s with
    | .Expr e _ => gN (!isComp e) (.expr (cE d cx e))
    | .Assign ts v _ => oN (oneL ts) fun t => cAsg (cE d cx) cx t v
    | .AugAssign t op v _ => cAug (cE d cx) cx t op v
    | .If c a b _ => .sif (cE d cx c) (toN (a.map (cS d cx))) (toN (b.map (cS d cx)))
    | .While c b o _ => gN o.isEmpty (.whl (cE d cx c) (toN (b.map (cS d cx))))
    | .For t it b o _ => gN (o.isEmpty && notSet it) (oN (cTg cx t) fun tg => .for tg (cE d cx it) (toN (b.map (cS d cx))))
    | .Return e _ => rtnN (cE d cx) e
    | .Break _ => .brk
    | .Pass _ => .pass
    | _ => .bad
end

section

def Low (X : Cf) (t : St) : Prop := ∀ b o, X.h₀.get? b = some o → t.s.heap.get? b = some o ∧ ¬ t.W b
theorem Inv.toLow {X : Cf} {t : St} {H : Hp} (I : Inv X t H) : Low X t := fun b o e => ⟨I.keep b o e, I.low b o e⟩

def GOk (X : Cf) (x : Str) : Gv → Prop
  | .fn a => X.mg x = some (.ref a)
  | .bi b => X.mg x = none ∧ X.mb x = some (biVal b)
  | .lit v => ∃ y, X.mg x = some y ∧ ∀ t, Low X t → VRl X t v y

structure CxOk (X : Cf) (cx : Cx) (env : Env) : Prop where
  kind : env.scope.kind = .function
  nm : env.scope.names = cx.nm
  gl : env.globals = mainGlobals
  bi : env.builtins = builtinsNs
  nd : cx.ls.Nodup
  glob : ∀ x g, cx.G.lookup x = some g → GOk X x g

def FnOk (X : Cf) (n : Nat) (f : Nat) (sp : Fn) : Prop :=
  (∀ vs H, sp vs H = none) ∨ (keepIn X.K (.ref f) = true ∧ ∀ (A : Around) (t : St) (vs : List V) (xs : List Value), Room A n → VRs X.w.params t vs xs → Sim X A noX t (PySem.call (.ref f) xs) (sp vs) (VRl X))

structure Zx where
  X : Cf
  A : Around
  T : Tab
  n : Nat
  cx : Cx
  env : Env
structure Zok (Z : Zx) : Prop where
  B : Base Z.X
  R : Room Z.A Z.n
  TS : ∀ f, FnOk Z.X Z.n f (Z.T f)
  C : CxOk Z.X Z.cx Z.env

abbrev ZF (Z : Zx) (t : St) (σ : List V) : Prop := Frm Z.X t Z.env.locals Z.cx.ls σ
def EOk (Z : Zx) (pe : Expr) (e : N) : Prop := ∀ (t : St) (σ : List V), ZF Z t σ → Sim Z.X Z.A noX t (eval pe Z.env) (evalE Z.T e σ) (VRl Z.X)
abbrev bEq : St → Bool → Bool → Prop := fun z' b a => a = b
noncomputable def evalB (T : Tab) (e : N) (σ : List V) : M Bool := bnd (evalE T e σ) truthyM
def BOk (Z : Zx) (pe : Expr) (e : N) : Prop := ∀ (t : St) (σ : List V), ZF Z t σ → Sim Z.X Z.A noX t (isTrue pe Z.env (eval pe Z.env)) (evalB Z.T e σ) bEq
def EB (Z : Zx) (pe : Expr) (e : N) : Prop := EOk Z pe e ∧ BOk Z pe e

section
variable {X : Cf} {A : Around} {E : Addr → Prop} {t : St} {α β : Type}
theorem simNone {m : Sem α} {c : M β} {R : St → β → α → Prop} (h : ∀ H, c H = none) : Sim X A E t m c R := fun H I p e => by rw [h H] at e; cases e
theorem simEq {m m' : Sem α} {c c' : M β} {R : St → β → α → Prop} (h : m = m') (g : ∀ H p, c H = some p → c' H = some p) (k : Sim X A E t m' c' R) : Sim X A E t m c R := fun H I p e => by subst h; exact k H I p (g H p e)
theorem bnd_some {c : M α} {d : α → M β} {H : Hp} {p : β × Hp} (e : bnd c d H = some p) : ∃ q, c H = some q ∧ d q.1 q.2 = some p := by
  unfold bnd at e
  cases hc : c H with
  | none => rw [hc] at e; cases e
  | some q => rw [hc] at e; exact ⟨q, rfl, e⟩
theorem bnd_none {c : M α} {d : α → M β} {H : Hp} (h : ∀ a H, d a H = none) : bnd c d H = none := by
  unfold bnd
  cases c H with
  | none => rfl
  | some q => exact h _ _
theorem Frm.undef {X : Cf} {t : St} {L : Addr} {ls : List Str} {σ : List V} (F : Frm X t L ls σ) : Frm X t L ls [.undef] := ⟨F.ns.elim fun m h => ⟨m, h.1, fun i z v z' h2 => .inl (by cases i <;> cases h2; rfl)⟩, F.wL, F.off⟩
theorem Frm.ex {X : Cf} {t u : St} {L : Addr} {ls : List Str} {σ : List V} (F : Frm X t L ls σ) (e : Ext noX t u) : Frm X u L ls σ := F.ext e fun h => h
end

section
variable {Z : Zx} {pe : Expr} {e : N}

theorem eok_fail (h : ∀ σ H, evalE Z.T e σ H = none) : EB Z pe e :=
  ⟨fun t σ F => simNone (h σ), fun t σ F => simNone fun H => by unfold evalB bnd; rw [h]⟩
theorem eb_bad : EB Z pe .bad := eok_fail fun z' z' => rfl
theorem eb_oN {α : Type} {o : Option α} {f : α → N} (h : ∀ a, o = some a → EB Z pe (f a)) : EB Z pe (oN o f) := by
  cases o with
  | none => exact eb_bad
  | some a => exact h a rfl
theorem eb_gN {b : Bool} {n : N} (h : b = true → EB Z pe n) : EB Z pe (gN b n) := by
  cases b with
  | false => exact eb_bad
  | true => exact h rfl

theorem eb_value (he : ∀ whole, isTrue pe Z.env whole = (do let v ← whole; standAt pe.pos; holding [v] (PySem.truthy v))) (h : EOk Z pe e) : EB Z pe e :=
  ⟨h, fun t σ F => by rw [he]; exact Sim.bind (h t σ F) fun u v a x r => Sim.stand (Sim.hold (truthy_sim r))⟩

theorem strL_some {x : Str} {l : List Nat} (h : strL x = some l) : StrV l ∧ x = toStr l := by
  unfold strL at h
  split at h
  · rename_i hz; cases h
    exact ⟨⟨hz.1, fun c hc => by simpa using List.all_eq_true.mp hz.2 c hc⟩, rfl⟩
  · cases h

theorem eb_const {c : Const} {k : Nat} {pos : Pos} : EB Z (.Constant c k pos) (cConst c) := by
  cases c with
  | none => exact eb_value (fun z' => rfl) fun t σ F => simRet fun Q h => wpAny_Constant_none (h _ _ rfl)
  | bool b => exact eb_value (fun z' => rfl) fun t σ F => simRet fun Q h => wpAny_Constant_bool (h _ _ rfl)
  | int i => exact eb_value (fun z' => rfl) fun t σ F => simRet fun Q h => wpAny_Constant_int (h _ _ (vr_int _ _))
  | str x =>
    refine eb_oN fun l hl => ?_
    obtain ⟨z, rfl⟩ := strL_some hl
    exact eb_value (fun z' => rfl) fun t σ F => simRet fun Q h => wpAny_Constant_str (h _ _ (vr_str z _))
  | _ => exact eb_bad

theorem local_facts (O : Zok Z) {x : Str} {i : Nat} (h : localIx Z.cx x = some i) : Z.env.kindOf x = some .local ∧ Z.cx.ls.idxOf? x = some i := by
  unfold localIx at h
  split at h
  · rename_i hq
    exact ⟨by unfold Env.kindOf; rw [O.C.nm]; exact hq, h⟩
  · cases h
theorem glob_facts (O : Zok Z) {x : Str} {g : Gv} (h : globOf Z.cx x = some g) : Z.env.kindOf x = some .globalImplicit ∧ GOk Z.X x g := by
  unfold globOf at h
  split at h
  · rename_i hq
    exact ⟨by unfold Env.kindOf; rw [O.C.nm]; exact hq, O.C.glob x g h⟩
  · cases h

theorem locV_some {σ : List V} {i : Nat} {H : Hp} {p : V × Hp} (e : locV σ i H = some p) : σ[i]? = some p.1 ∧ p.1 ≠ .undef ∧ p.2 = H := by
  obtain ⟨v, hv, e⟩ := oB_some e
  rw [hv]
  cases v <;> cases e <;> exact ⟨rfl, fun h => (by cases h), rfl⟩

theorem loc_sim (O : Zok Z) {x : Str} {i : Nat} (hx : localIx Z.cx x = some i) {t : St} {σ : List V} (F : ZF Z t σ) : Sim Z.X Z.A noX t (loadName Z.env x) (locV σ i) (VRl Z.X) := fun H I p e => by
  obtain ⟨h1, h2, h3⟩ := locV_some e
  obtain ⟨q1, q2⟩ := local_facts O hx
  obtain ⟨m, hn, hv⟩ := F.ns
  obtain ⟨hlt, hx, _⟩ := List.idxOf?_eq_some_iff.mp q2
  obtain ⟨y, hy, r⟩ := (hv i x p.1 (List.getElem?_eq_some_iff.mpr ⟨hlt, hx⟩) h1).resolve_left h2
  exact wpAny_loadName_local O.C.kind q1 hn hy (Sat.here ⟨h3 ▸ I, r⟩)

theorem eb_name (O : Zok Z) {x : Str} {pos : Pos} : EB Z (.Name x pos) (cName Z.cx x) := by
  unfold cName
  cases hd : isDbg x with
  | true => exact eb_bad
  | false =>
    dsimp only
    cases hl : localIx Z.cx x with
    | some i => exact eb_value (fun z' => rfl) fun t σ F H I p e => wpAny_Name (loc_sim O hl F H I p e) hd
    | none =>
      refine eb_oN fun v hv => eb_value (fun z' => rfl) fun t σ F H I p e => ?_
      obtain ⟨g, hg, hv⟩ := Option.bind_eq_some_iff.mp hv
      cases g <;> cases hv
      obtain ⟨q, y, hy, ry⟩ := glob_facts O hg
      cases e
      have hns : t.s.heap.Ns Z.env.globals Z.X.mg := by rw [O.C.gl]; exact O.B.mg.keeps I.keep
      exact Name_function_global O.C.kind q (loadGlobal_global hns hy (Sat.here ⟨I, ry t I.toLow⟩)) hd

theorem eb_bin {op : Operator} {l r : Expr} {a b : N} {pos : Pos} (hl : EOk Z l a) (hr : EOk Z r b) : EB Z (.BinOp l op r pos) (.bin op a b) :=
  eb_value (fun z' => rfl) fun t σ F => by
    rw [arm_eval_BinOp]
    exact Sim.bind (hl t σ F) fun u x y e1 r1 => Sim.bind (Sim.hold (hr u σ (F.ex e1))) fun v x2 y2 e2 r2 => Sim.stand (Sim.operate (bin_sim (e2.vr (X := Z.X) r1) r2))

theorem eb_neg {x : Expr} {a : N} {pos : Pos} (hx : EOk Z x a) : EB Z (.UnaryOp .USub x pos) (.neg a) :=
  eb_value (fun z' => rfl) fun t σ F => by
    rw [arm_eval_UnaryOp]
    refine Sim.bind (hx t σ F) fun u v y e1 r1 => Sim.stand (Sim.hold (simO fun i hi => ?_))
    obtain ⟨k, rfl⟩ := int_of r1 hi
    exact simRet fun Q h => PyProof.Rows.neg_int (h _ _ (vr_int _ _))

theorem eb_not {x : Expr} {a : N} {pos : Pos} (hx : EB Z x a) : EB Z (.UnaryOp .Not x pos) (.not a) := by
  refine ⟨fun t σ F => ?_, fun t σ F => ?_⟩
  · rw [arm_eval_UnaryOp]
    exact Sim.bind (hx.1 t σ F) fun u v y e1 r1 => Sim.stand (Sim.hold (Sim.hold (Sim.bind (truthy_sim r1) fun v b b' e2 r2 => simPure (congrArg (fun b => Value.bool (!b)) r2))))
  · rw [arm_isTrue_UnaryOp]
    refine simEq rfl (c' := bnd (evalB Z.T a σ) fun b => ret (!b)) (fun H p e => ?_) (Sim.bind (hx.2 t σ F) fun u b b' e1 r1 => simPure (congrArg (!·) r1))
    obtain ⟨q, h1, e⟩ := bnd_some e
    obtain ⟨q1, h2, h1⟩ := bnd_some h1
    obtain ⟨q2, h3, h1⟩ := bnd_some h1
    cases h1; cases e
    unfold evalB bnd
    rw [h2]; dsimp only; rw [h3]; rfl

theorem eb_ite {c a b : Expr} {ec ea eb : N} {pos : Pos} (hc : EB Z c ec) (ha : EB Z a ea) (hb : EB Z b eb) : EB Z (.IfExp c a b pos) (.ite ec ea eb) := by
  refine ⟨fun t σ F => ?_, fun t σ F => ?_⟩
  · rw [arm_eval_IfExp]
    exact Sim.bind (hc.2 t σ F) fun u b b' e1 r1 => simB r1 (ha.1 u σ (F.ex e1)) (hb.1 u σ (F.ex e1))
  · rw [arm_isTrue_IfExp]
    refine simEq rfl (c' := bnd (evalB Z.T ec σ) fun t => bM t (evalB Z.T ea σ) (evalB Z.T eb σ)) (fun H p e => ?_) (Sim.bind (hc.2 t σ F) fun u b b' e1 r1 => simB r1 (ha.2 u σ (F.ex e1)) (hb.2 u σ (F.ex e1)))
    obtain ⟨q, h1, e⟩ := bnd_some e
    obtain ⟨q1, h2, h1⟩ := bnd_some h1
    show bnd (bnd (evalE Z.T ec σ) truthyM) _ H = _
    unfold bnd at h2 ⊢
    rw [h2]; dsimp only
    obtain ⟨b, H1⟩ := q1
    cases b
    · show bnd _ _ _ = _; unfold bnd; rw [show evalE Z.T eb σ H1 = some q from h1]; exact e
    · show bnd _ _ _ = _; unfold bnd; rw [show evalE Z.T ea σ H1 = some q from h1]; exact e

theorem behind_of {op : CmpOp} {r : Expr} (h : notSet r = true) : behindInMarks op r = false := by
  cases r <;> first | rfl | cases h
theorem marked_of {op : CmpOp} {r : Expr} {m : Sem Value} (h : notSet r = true) : markedBehindIn op r m = m := markedBehindIn_of_false (behind_of h)
end
end

section

section
variable {X : Cf} {A : Around} {E : Addr → Prop} {t : St} {α β γ : Type}
theorem bnd_assoc {c : M α} {d : α → M β} {f : β → M γ} : bnd (bnd c d) f = bnd c fun a => bnd (d a) f := by
  funext H; unfold bnd; cases c H <;> rfl
theorem bnd_ret {c : M α} : bnd c ret = c := by funext H; unfold bnd; cases c H <;> rfl
theorem truthyM_some {v : V} {H : Hp} {q : Bool × Hp} (e : truthyM v H = some q) : q.2 = H := by
  obtain ⟨b, _, e⟩ := hB_some e; cases e; rfl
theorem Sim.rel {m : Sem α} {c : M β} {R : St → β → α → Prop} {vs ks : List Value} (h : Sim X A E t m c R) : Sim X A E t (release vs ks >>= fun z' => m) c R := fun H I p e => wpAny_bind (wpAny_release (h H I p e))
theorem and_eq {a : M V} {B : M V} {H : Hp} {p : Bool × Hp} (e : bnd (bnd a fun v => bnd (truthyM v) fun t => bM t B (ret v)) truthyM H = some p) : bnd (bnd a truthyM) (fun t => bM t (bnd B truthyM) (ret false)) H = some p := by
  rw [bnd_assoc] at e ⊢
  obtain ⟨q, h1, e⟩ := bnd_some e
  rw [bnd_assoc] at e
  obtain ⟨⟨b, H2⟩, h2, e⟩ := bnd_some e
  unfold bnd; rw [h1]; dsimp only; rw [h2]; dsimp only
  cases truthyM_some h2
  cases b
  · exact h2.symm.trans e
  · exact e
theorem or_eq {a : M V} {B : M V} {H : Hp} {p : Bool × Hp} (e : bnd (bnd a fun v => bnd (truthyM v) fun t => bM t (ret v) B) truthyM H = some p) : bnd (bnd a truthyM) (fun t => bM t (ret true) (bnd B truthyM)) H = some p := by
  rw [bnd_assoc] at e ⊢
  obtain ⟨q, h1, e⟩ := bnd_some e
  rw [bnd_assoc] at e
  obtain ⟨⟨b, H2⟩, h2, e⟩ := bnd_some e
  unfold bnd; rw [h1]; dsimp only; rw [h2]; dsimp only
  cases truthyM_some h2
  cases b
  · exact e
  · exact h2.symm.trans e
end

section
variable {Z : Zx} {pos : Pos}
theorem eb_cmp (O : Zok Z) {op : CmpOp} {l r : Expr} {a b : N} (hs : notSet r = true) (hl : EOk Z l a) (hr : EOk Z r b) : EB Z (.Compare l [op] [r] pos) (.cmp op a b) := by
  refine ⟨fun t σ F => ?_, fun t σ F => ?_⟩
  · rw [eval_Compare1, marked_of hs]
    exact Sim.bind (hl t σ F) fun u x y e1 r1 => Sim.bind (Sim.hold (hr u σ (F.ex e1))) fun v x2 y2 e2 r2 => Sim.stand (Sim.operate ((cmp_sim O.R (e2.vr (X := Z.X) r1) r2).mono fun z' z' z' z' r => r.1))
  · rw [isTrue_Compare1, marked_of hs]
    unfold evalB
    rw [show evalE Z.T (.cmp op a b) σ = bnd (evalE Z.T a σ) (fun x => bnd (evalE Z.T b σ) fun y => cmpV op x y) from rfl, bnd_assoc]
    refine Sim.bind (hl t σ F) fun u x y e1 r1 => ?_
    rw [bnd_assoc]
    exact Sim.bind (Sim.hold (hr u σ (F.ex e1))) fun v x2 y2 e2 r2 => Sim.stand (Sim.bind (Sim.operate (cmp_sim O.R (e2.vr (X := Z.X) r1) r2)) fun z' z' z' z' r => Sim.hold (truthy_sim r.1))

theorem eb_cmp2 (O : Zok Z) {o1 o2 : CmpOp} {l m r : Expr} {a b c : N} (hs : notSet m = true) (hs2 : notSet r = true) (hl : EOk Z l a) (hm : EOk Z m b) (hr : EOk Z r c) : EB Z (.Compare l [o1, o2] [m, r] pos) (.cmp2 o1 o2 a b c) := by
  refine ⟨fun t σ F => ?_, fun t σ F => ?_⟩
  · rw [arm_eval_Compare]
    refine Sim.bind (hl t σ F) fun u x y e1 r1 => ?_
    show Sim _ _ _ u (do
      let rv ← holding [y] (eval m Z.env)
      standAt pos
      let c ← holding [y, rv] (compareOp o1 y rv)
      release [y, rv] [c]
      if ← holding [c, rv] (PySem.truthy c) then (do
        let rv2 ← holding [rv] (markedBehindIn o2 r (eval r Z.env))
        standAt pos
        operate [rv, rv2] (compareOp o2 rv rv2)) else pure c) _ _
    rw [marked_of hs2]
    refine Sim.bind (Sim.hold (hm u σ (F.ex e1))) fun v x2 y2 e2 r2 => Sim.stand (Sim.bind (Sim.hold (cmp_sim O.R (e2.vr (X := Z.X) r1) r2)) fun w x3 y3 e3 r3 => Sim.rel (Sim.bind (Sim.hold (truthy_sim r3.1)) fun w2 b b' e4 r4 => ?_))
    exact simB r4 (Sim.bind (Sim.hold (hr w2 σ ((((F.ex e1).ex e2).ex e3).ex e4))) fun w3 x5 y5 e5 r5 => Sim.stand (Sim.operate ((cmp_sim O.R ((e3.trans (e4.trans e5)).vr (X := Z.X) r2) r5).mono fun z' z' z' z' r => r.1))) (simPure (e4.vr (X := Z.X) r3.1))
  · rw [arm_isTrue_Compare]
    unfold evalB
    rw [show evalE Z.T (.cmp2 o1 o2 a b c) σ = bnd (evalE Z.T a σ) (fun x => bnd (evalE Z.T b σ) fun y => bnd (cmpV o1 x y) fun r => bnd (truthyM r) fun t => bM t (bnd (evalE Z.T c σ) fun z => cmpV o2 y z) (ret r)) from rfl, bnd_assoc]
    refine Sim.bind (hl t σ F) fun u x y e1 r1 => ?_
    rw [bnd_assoc]
    show Sim _ _ _ u (do
      let rv ← holding [y] (eval m Z.env)
      standAt pos
      let c ← holding [y, rv] (compareOp o1 y rv)
      release [y, rv] [c]
      if ← holding [c, rv] (PySem.truthy c) then (do
        let rv2 ← holding [rv] (markedBehindIn o2 r (eval r Z.env))
        standAt pos
        let c ← operate [rv, rv2] (compareOp o2 rv rv2)
        holding [c] (PySem.truthy c)) else pure false) _ _
    rw [marked_of hs2]
    refine Sim.bind (Sim.hold (hm u σ (F.ex e1))) fun v x2 y2 e2 r2 => ?_
    refine simEq rfl (fun H p e => and_eq e) (Sim.stand ?_)
    rw [bnd_assoc]
    refine Sim.bind (Sim.hold (cmp_sim O.R (e2.vr (X := Z.X) r1) r2)) fun w x3 y3 e3 r3 => Sim.rel (Sim.bind (Sim.hold (truthy_sim r3.1)) fun w2 b b' e4 r4 => simB r4 ?_ (simPure rfl))
    rw [bnd_assoc]
    exact Sim.bind (Sim.hold (hr w2 σ ((((F.ex e1).ex e2).ex e3).ex e4))) fun w3 x5 y5 e5 r5 => Sim.stand (Sim.bind (Sim.operate (cmp_sim O.R ((e3.trans (e4.trans e5)).vr (X := Z.X) r2) r5)) fun z' z' z' z' r => Sim.hold (truthy_sim r.1))

theorem bool_sim {F : Expr → N} {op : BoolOp} : ∀ (vs : List Expr), (∀ e ∈ vs, EB Z e (F e)) → ∀ (t : St) (σ : List V), ZF Z t σ →
    Sim Z.X Z.A noX t (boolOp pos op (evalEach vs Z.env)) (evalE Z.T (boolN op (vs.map F)) σ) (VRl Z.X) ∧ Sim Z.X Z.A noX t (allTrue op vs Z.env) (evalB Z.T (boolN op (vs.map F)) σ) bEq
  | [], _, t, σ, Fr => ⟨simNone fun z' => rfl, simNone fun z' => rfl⟩
  | [x], h, t, σ, Fr => by
    refine ⟨(h x List.mem_cons_self).1 t σ Fr, ?_⟩
    rw [arm_allTrue_cons]
    refine simEq rfl (c' := bnd (evalB Z.T (F x) σ) ret) (fun H p e => by rw [bnd_ret]; exact e) (Sim.bind ((h x List.mem_cons_self).2 t σ Fr) fun u b b' e1 r1 => ?_)
    cases r1
    cases op <;> cases b <;> exact simPure rfl
  | x :: y :: r, h, t, σ, Fr => by
    have ih := bool_sim (op := op) (y :: r) fun e he => h e (List.mem_cons_of_mem _ he)
    have hx := h x List.mem_cons_self
    cases op
    · refine ⟨?_, ?_⟩
      · show Sim _ _ _ t (do
          let v ← eval x Z.env
          standAt pos
          let t ← holding [v] (PySem.truthy v)
          match BoolOp.And, t with
          | .And, false | .Or, true => pure v
          | _, _ => boolOp pos .And (evalEach (y :: r) Z.env)) (bnd (evalE Z.T (F x) σ) fun v => bnd (truthyM v) fun t => bM t (evalE Z.T (boolN .And ((y :: r).map F)) σ) (ret v)) _
        refine Sim.bind (hx.1 t σ Fr) fun u v a e1 r1 => Sim.stand (Sim.bind (Sim.hold (truthy_sim r1)) fun w b b' e2 r2 => ?_)
        cases r2
        cases b
        · exact simPure (e2.vr (X := Z.X) r1)
        · exact (ih w σ ((Fr.ex e1).ex e2)).1
      · rw [arm_allTrue_cons]
        refine simEq rfl (fun H p e => and_eq e) (Sim.bind (hx.2 t σ Fr) fun u b b' e1 r1 => ?_)
        cases r1
        cases b
        · exact simPure rfl
        · exact (ih u σ (Fr.ex e1)).2
    · refine ⟨?_, ?_⟩
      · show Sim _ _ _ t (do
          let v ← eval x Z.env
          standAt pos
          let t ← holding [v] (PySem.truthy v)
          match BoolOp.Or, t with
          | .And, false | .Or, true => pure v
          | _, _ => boolOp pos .Or (evalEach (y :: r) Z.env)) (bnd (evalE Z.T (F x) σ) fun v => bnd (truthyM v) fun t => bM t (ret v) (evalE Z.T (boolN .Or ((y :: r).map F)) σ)) _
        refine Sim.bind (hx.1 t σ Fr) fun u v a e1 r1 => Sim.stand (Sim.bind (Sim.hold (truthy_sim r1)) fun w b b' e2 r2 => ?_)
        cases r2
        cases b
        · exact (ih w σ ((Fr.ex e1).ex e2)).1
        · exact simPure (e2.vr (X := Z.X) r1)
      · rw [arm_allTrue_cons]
        refine simEq rfl (fun H p e => or_eq e) (Sim.bind (hx.2 t σ Fr) fun u b b' e1 r1 => ?_)
        cases r1
        cases b
        · exact (ih u σ (Fr.ex e1)).2
        · exact simPure rfl

theorem eb_bool {F : Expr → N} {op : BoolOp} {vs : List Expr} (h : ∀ e ∈ vs, EB Z e (F e)) : EB Z (.BoolOp op vs pos) (boolN op (vs.map F)) :=
  ⟨fun t σ Fr => by rw [arm_eval_BoolOp]; exact (bool_sim vs h t σ Fr).1, fun t σ Fr => by rw [arm_isTrue_BoolOp]; exact (bool_sim (pos := pos) vs h t σ Fr).2⟩

abbrev VRL (X : Cf) (t : St) (vs : List V) (xs : List Value) : Prop := VRs X.w.params t vs xs
theorem starEach_cons {e : Expr} {rest : List Expr} {env : Env} (h : notStar e = true) : starEach (e :: rest) env = (false, eval e env) :: starEach rest env := by
  cases e <;> first | rfl | cases h

theorem spliced_sim {X : Cf} {A : Around} {t : St} {x : Sem Value} {rest : List (Bool × Sem Value)} {c : M V} {d : M (List V)} (h : Sim X A noX t x c (VRl X)) (g : ∀ u, Ext noX t u → Sim X A noX u (spliced rest) d (VRL X)) :
    Sim X A noX t (spliced ((false, x) :: rest)) (bnd c fun v => bnd d fun vs => ret (v :: vs)) (VRL X) := fun H I p e => by
  obtain ⟨q, h1, e⟩ := bnd_some e
  obtain ⟨q2, h2, e⟩ := bnd_some e
  cases e
  refine spliced_cons (wpAny_mono (h H I q h1) (fun a s qq => ?_) fun z' z' x => x)
  obtain ⟨v, rfl, e1, I1, r1⟩ := qq
  refine wpAny_mono (g v e1 q.2 I1 q2 h2) (fun vs s qq => ?_) fun z' z' x => x
  obtain ⟨w, rfl, e2, I2, r2⟩ := qq
  exact ⟨w, rfl, e1.trans e2, I2, e2.vr (X := X) r1, r2⟩

theorem row_plain {env : Env} : ∀ (es : List Expr), es.all notStar = true → (backTo pos (starEach es env)).any (·.1) = false
  | [], _ => rfl
  | e :: es, h => by
    rw [List.all_cons, Bool.and_eq_true] at h
    rw [starEach_cons h.1]
    exact row_plain es h.2

theorem row_sim {F : Expr → N} : ∀ (es : List Expr), es.all notStar = true → (∀ e ∈ es, EOk Z e (F e)) → ∀ (t : St) (σ : List V), ZF Z t σ → Sim Z.X Z.A noX t (spliced (backTo pos (starEach es Z.env))) (evalEs Z.T (toN (es.map F)) σ) (VRL Z.X)
  | [], _, _, t, σ, Fr => simPure trivial
  | e :: es, hn, h, t, σ, Fr => by
    rw [List.all_cons, Bool.and_eq_true] at hn
    rw [starEach_cons hn.1]
    exact spliced_sim (h e List.mem_cons_self t σ Fr) fun u e1 => row_sim es hn.2 (fun e he => h e (List.mem_cons_of_mem _ he)) u σ (Fr.ex e1)

theorem eb_tup {F : Expr → N} {es : List Expr} {k : Nat} (hn : es.all notStar = true) (h : ∀ e ∈ es, EOk Z e (F e)) : EB Z (.Tuple es k pos) (.tup (toN (es.map F))) :=
  eb_value (fun z' => rfl) fun t σ Fr => by
    rw [arm_eval_Tuple]
    refine Sim.stand (Sim.bind (row_sim es hn h t σ Fr) fun u vs xs e1 r1 => simGd fun hz => fun H I p e => ?_)
    cases e
    exact wpAny_newObj_type (QQ.newTup I r1 hz) (by show xs.toArray.size ≤ sizeLine; rw [List.size_toArray, ← r1.length]; exact size_line hz)

theorem eb_list {F : Expr → N} {es : List Expr} (hn : es.all notStar = true) (h : ∀ e ∈ es, EOk Z e (F e)) : EB Z (.List es pos) (.list (toN (es.map F))) :=
  eb_value (fun z' => rfl) fun t σ Fr => by
    rw [arm_eval_List]
    refine Sim.stand (Sim.bind (row_sim es hn h t σ Fr) fun u vs xs e1 r1 => simGd fun hz => fun H I p e => ?_)
    cases e
    exact wpAny_newObj_type (QQ.newList I r1 hz) (by show xs.toArray.size ≤ sizeLine; rw [List.size_toArray, ← r1.length]; exact size_line hz)
end
end

section

section
variable {Z : Zx} {pos : Pos}

theorem args_of {A : Around} {X : Cf} {f : Value} {env : Env} {es : List Expr} (hn : es.all notStar = true) {Q : Args → Shared → Prop} {s : Shared} (h : Wp X A (spliced (backTo pos (starEach es env))) (fun vs s' => Q ⟨vs, []⟩ s') s) : Wp X A (evalArgs f true (backTo pos (starEach es env)) []) Q s := by
  cases es with
  | nil =>
    unfold evalArgs
    show wpAny _ A (spliced [] >>= _) Q noE s
    refine wpAny_bind (wpAny_mono h (fun vs s' h' => ?_) fun z' z' x => x)
    refine wpAny_holding ?_
    exact wpAny_bind (wpAny_pure (wpAny_bind (wpAny_pure (wpAny_pure h'))))
  | cons e es =>
    rw [List.all_cons, Bool.and_eq_true] at hn
    rw [starEach_cons hn.1] at h ⊢
    exact evalArgs_plain h

theorem call_sim (O : Zok Z) {F : Expr → N} {es : List Expr} {f : Value} {first : List Value} {c : List V → M V} {t : St} {σ : List V} (hn : es.all notStar = true) (h : ∀ e ∈ es, EOk Z e (F e)) (Fr : ZF Z t σ)
    (hw : ∀ Q s, Wp Z.X Z.A (evalArgs f true (backTo pos (starEach es Z.env)) []) (fun a s₁ => Z.X.K.In s₁.heap ∧ Wp Z.X Z.A (PySem.call f (first ++ a.pos) a.kw) Q s₁) s → Wp Z.X Z.A (callWith pos f first (backTo pos (starEach es Z.env)) []) Q s)
    (hc : ∀ u vs xs, Ext noX t u → VRL Z.X u vs xs → Sim Z.X Z.A noX u (PySem.call f (first ++ xs)) (c vs) (VRl Z.X)) :
    Sim Z.X Z.A noX t (callWith pos f first (backTo pos (starEach es Z.env)) []) (bnd (evalEs Z.T (toN (es.map F)) σ) c) (VRl Z.X) := fun H I p e => by
  obtain ⟨q, h1, e⟩ := bnd_some e
  refine hw _ _ (args_of hn (wpAny_mono (row_sim es hn h t σ Fr H I q h1) (fun xs s qq => ?_) fun z' z' x => x))
  obtain ⟨u, rfl, e1, I1, r1⟩ := qq
  exact ⟨O.B.kin.keeps I1.keep, wpAny_mono (hc u q.1 xs e1 r1 q.2 I1 p e) (fun a s qq => Sat.from e1 qq) fun z' z' x => x⟩

theorem name_fn (O : Zok Z) {t : St} {H : Hp} (I : Inv Z.X t H) {x : Str} {np : Pos} {g : Gv} {v : Value} (hd : isDbg x = false) (hg : globOf Z.cx x = some g) (hv : (∃ a, g = .fn a ∧ v = .ref a) ∨ ∃ b, g = .bi b ∧ v = biVal b) {Q : Value → Shared → Prop} (k : Q v t.s) : Wp Z.X Z.A (eval (.Name x np) Z.env) Q t.s := by
  obtain ⟨q, gk⟩ := glob_facts O hg
  have hns : t.s.heap.Ns Z.env.globals Z.X.mg := by rw [O.C.gl]; exact O.B.mg.keeps I.keep
  have hnb : t.s.heap.Ns Z.env.builtins Z.X.mb := by rw [O.C.bi]; exact O.B.mb.keeps I.keep
  rcases hv with ⟨a, rfl, rfl⟩ | ⟨b, rfl, rfl⟩
  · exact Name_function_global O.C.kind q (loadGlobal_global hns gk k) hd
  · exact Name_function_global O.C.kind q (loadGlobal_builtin hns gk.1 hnb gk.2 k) hd

theorem eb_call (O : Zok Z) {F : Expr → N} {x : Str} {np : Pos} {f : Nat} {es : List Expr} (hn : es.all notStar = true) (hd : isDbg x = false) (hg : globOf Z.cx x = some (.fn f)) (h : ∀ e ∈ es, EOk Z e (F e)) : EB Z (.Call (.Name x np) es [] pos) (.call f (toN (es.map F))) :=
  eb_value (fun z' => rfl) fun t σ Fr => by
    rcases O.TS f with hnone | ⟨hk, hT⟩
    · exact simNone fun H => bnd_none fun a H => hnone a H
    · rw [arm_eval_Call_Name']
      intro H I p e
      refine wpAny_bind (name_fn O I hd hg (.inl ⟨f, rfl, rfl⟩) ?_)
      exact call_sim (first := []) O hn h Fr (fun Q s q => callWith_of (P := Z.X.K.In) (by rw [row_plain es hn]; rfl) (keeps_K hk) q) (fun u vs xs e1 r1 => hT _ u vs xs O.R r1) H I p e

theorem eb_bi (O : Zok Z) {F : Expr → N} {x : Str} {np : Pos} {b : Bi} {es : List Expr} (hn : es.all notStar = true) (hd : isDbg x = false) (hg : globOf Z.cx x = some (.bi b)) (h : ∀ e ∈ es, EOk Z e (F e)) : EB Z (.Call (.Name x np) es [] pos) (.bi b (toN (es.map F))) :=
  eb_value (fun z' => rfl) fun t σ Fr => by
    rw [arm_eval_Call_Name']
    intro H I p e
    refine wpAny_bind (name_fn O I hd hg (.inr ⟨b, rfl, rfl⟩) ?_)
    refine call_sim (first := []) O hn h Fr (fun Q s q => ?_) (fun u vs xs e1 r1 => bi_sim r1) H I p e
    have q' : Wp Z.X Z.A (evalArgs (biVal b) true (backTo pos (starEach es Z.env)) []) (fun a s₁ => Wp Z.X Z.A (PySem.call (biVal b) ([] ++ a.pos) a.kw) Q s₁) s := wpAny_mono q (fun z' z' r => r.2) fun z' z' x => x
    cases b
    · exact PySem.Calls.callWith_builtin (row_plain es hn) q'
    · exact PySem.Calls.callWith_builtin (row_plain es hn) q'
    · exact PySem.Calls.callWith_builtin (row_plain es hn) q'
    · exact PyProof.Rows.callWith_type (row_plain es hn) q'
    · exact PyProof.Rows.callWith_type (row_plain es hn) q'

theorem ix_name {l : List Str} {n : Nat} {x : Str} (h : l.idxOf? x = some n) : x = l.getD n "" := by
  obtain ⟨hlt, hx, _⟩ := List.idxOf?_eq_some_iff.mp h
  rw [List.getD_eq_getElem?_getD, List.getElem?_eq_getElem hlt, hx]; rfl

theorem attrBase_of {o : Expr} {attr : Str} {env : Env} {whole : Sem Value} (hn : notSuper o = true) {X : Cf} {A : Around} {Q : Value → Shared → Prop} {s : Shared} (h : Wp X A whole Q s) : Wp X A (attributeBase o attr env whole) Q s := by
  unfold attributeBase
  split
  · rename_i id _ _
    have : (id != "super") = true := hn
    rw [this]
    exact h
  · exact h

theorem eb_attr (O : Zok Z) {F : Expr → N} {o : Expr} {name : Str} (ho : EOk Z o (F o)) : EB Z (.Attribute o name pos) (cAttr F o name) :=
  eb_oN fun f hf => eb_gN fun hn => eb_value (fun z' => rfl) fun t σ Fr => by
    rw [arm_eval_Attribute, ix_name hf]
    refine fun H I p e => wpAny_bind (attrBase_of hn (Sim.seq (d := fun v => bnd (attrV v f) ret) (ho t σ Fr) (fun u v a e1 r1 => Sim.stand (Sim.bind (Sim.hold (attr_sim O.B r1)) fun w v2 a2 e2 r2 => ?_)) I (by simp only [bnd_ret]; exact e)))
    exact fun H I p e => by cases e; exact wpAny_bind (wpAny_letTemporaryGo (wpAny_pure (Sat.here ⟨I, r2⟩)))
end
end

section

section
variable {Z : Zx} {pos : Pos}

theorem hB_bnd {α β : Type} {f : Hp → Option α} {d : α → M β} {H : Hp} {p : β × Hp} (e : hB f d H = some p) : ∃ b, f H = some b ∧ d b H = some p := hB_some e

theorem eb_meth (O : Zok Z) {F : Expr → N} {o : Expr} {name : Str} {m : Nat} {apos : Pos} {es : List Expr} (hm : methNames.idxOf? name = some m) (hn : es.all notStar = true) (hg : (decide (apos.endLine = pos.line ∧ es.length < 30) && notSuper o) = true) (ho : EOk Z o (F o)) (h : ∀ e ∈ es, EOk Z e (F e)) :
    EB Z (.Call (.Attribute o name apos) es [] pos) (.meth (F o) m (toN (es.map F))) :=
  eb_value (fun z' => rfl) fun t σ Fr H I p e => by
    rw [Bool.and_eq_true, decide_eq_true_eq] at hg
    obtain ⟨q, h1, e⟩ := bnd_some e
    obtain ⟨k, h2, e⟩ := hB_some e
    rw [arm_eval_Call, ix_name hm]
    refine wpAny_bind (attrBase_of hg.2 (wpAny_mono (ho t σ Fr H I q h1) (fun a s qq => ?_) fun z' z' x => x))
    obtain ⟨u, rfl, e1, I1, r1⟩ := qq
    refine wpAny_bind (wpAny_standAt ?_)
    unfold methodCall
    have few : methodCallForm (es.length + ([] : List Keyword).length) (backTo pos (starEach es Z.env)) (backToKw pos (keywordEach [] Z.env)) = true := by
      have hall : (backTo pos (starEach es Z.env)).all (fun p => !p.1) = true := by
        rw [List.all_eq_not_any_not]
        simp only [Bool.not_not, row_plain es hn, Bool.not_false]
      unfold methodCallForm
      rw [hall]
      exact decide_eq_true hg.1.2
    have hpos : methodCallPos true o Z.env apos pos = pure pos := by
      unfold methodCallPos
      rw [if_pos (by rw [beq_iff_eq.mpr hg.1.1]; rfl)]
    rw [few, hpos]
    show wpAny _ _ (holding [a] (getMethod a (methName m) _) >>= _) _ _ u.s
    cases k with
    | none =>
      refine wpAny_bind (wpAny_holding (wpAny_mono (recv_bi I1 r1 h2) (fun r s qq => ?_) fun z' z' x => x))
      obtain ⟨rfl, rfl⟩ := qq
      refine wpAny_bind (wpAny_pure ?_)
      exact wpAny_mono (call_sim O hn h (Fr.ex e1) (fun Q s q => PySem.Calls.callWith_builtin (row_plain es hn) (wpAny_mono q (fun z' z' r => r.2) fun z' z' x => x)) (fun v vs xs e2 r2 => bmeth_sim (e2.vr (X := Z.X) r1) r2) q.2 I1 p e) (fun z' z' qq => Sat.from e1 qq) fun z' z' x => x
    | some f =>
      obtain ⟨hrec, hk⟩ := recv_own (pl := (do return (← importBound o Z.env).getD true)) (A := Z.A) O.B I1 r1 h2
      refine wpAny_bind (wpAny_holding (wpAny_mono hrec (fun r s qq => ?_) fun z' z' x => x))
      obtain ⟨rfl, rfl⟩ := qq
      refine wpAny_bind (wpAny_pure ?_)
      have hT := (O.TS f).resolve_left fun hnone => nomatch (bnd_none (c := evalEs Z.T (toN (es.map F)) σ) (d := fun vs => methV Z.T (some f) q.1 m vs) fun a H => hnone (q.1 :: a) H).symm.trans e
      exact wpAny_mono (call_sim O hn h (Fr.ex e1) (fun Q s q => callWith_of (P := Z.X.K.In) (by rw [row_plain es hn]; rfl) (keeps_K hk) q) (fun v vs xs e2 r2 => hT.2 _ v (q.1 :: vs) (a :: xs) O.R ⟨e2.vr (X := Z.X) r1, r2⟩) q.2 I1 p e) (fun z' z' qq => Sat.from e1 qq) fun z' z' x => x

theorem subscripted_of {i : Expr} {o v : Value} (h : noSlice i = true) : subscripted i false o v = operate [o, v] (getItem o v) := by
  cases i <;> first | rfl | cases h

theorem eb_idx {o i : Expr} {a b : N} (hs : noSlice i = true) (ho : EOk Z o a) (hi : EOk Z i b) : EB Z (.Subscript o i pos) (.idx a b) :=
  eb_value (fun z' => rfl) fun t σ Fr H I p e => by
    obtain ⟨q, h1, e⟩ := bnd_some e
    obtain ⟨q2, h2, e⟩ := bnd_some e
    refine Subscript_ (wpAny_mono (ho t σ Fr H I q h1) (fun x s qq => ?_) fun z' z' x => x)
    obtain ⟨u, rfl, e1, I1, r1⟩ := qq
    refine wpAny_mono (hi u σ (Fr.ex e1) q.2 I1 q2 h2) (fun y s qq => ?_) fun z' z' x => x
    obtain ⟨v, rfl, e2, I2, r2⟩ := qq
    obtain ⟨Tn, id, hT, hl, hg⟩ := idx_item (A := Z.A) (E := noX) I2 (e2.vr (X := Z.X) r1) r2 e
    exact tail_any hT hl (wpAny_mono hg (fun z' z' qq => Sat.from (e1.trans e2) qq) fun z' z' x => x) (subscripted_of hs)

theorem part_sim {F : Expr → N} {l : Option Expr} (h : ∀ e, l = some e → EOk Z e (F e)) {t : St} {σ : List V} (Fr : ZF Z t σ) : Sim Z.X Z.A noX t (evalPart l Z.env) (evalE Z.T (partN F l) σ) (VRl Z.X) := by
  cases l with
  | none => exact simPure rfl
  | some pe => exact h pe rfl t σ Fr

theorem slc_run {F : Expr → N} {o : Expr} {lo hi : Option Expr} {p0 : Pos} {x : Value} {u : St} {σ : List V} {H : Hp} {q2 q3 p : V × Hp} (hl : ∀ e, lo = some e → EOk Z e (F e)) (hh : ∀ e, hi = some e → EOk Z e (F e)) (Fr : ZF Z u σ) (I : Inv Z.X u H) (h2 : evalE Z.T (partN F lo) σ H = some q2) (h3 : evalE Z.T (partN F hi) σ q2.2 = some q3)
    (hx : ∀ w sl y z, Inv Z.X w q3.2 → Ext noX u w → VRl Z.X w q2.1 y → VRl Z.X w q3.1 z → w.s.heap.IsSliceOf sl y z .none → ItemOk Z.X Z.A noX w x (.ref sl) p) :
    wpAny (model Z.X.prog Z.X.w) Z.A (eval (.Slice lo hi none p0) Z.env) (fun i s => wpAny (model Z.X.prog Z.X.w) Z.A (subscriptTail o (.Slice lo hi none p0) x i) (QQ noX u fun u a => Inv Z.X u p.2 ∧ VRl Z.X u p.1 a) noE s) noE u.s :=
  wpAny_Slice (Sat.then (part_sim hl Fr H I q2 h2) fun v y e2 r2 => Sat.then (part_sim hh (Fr.ex e2) q2.2 r2.1 q3 h3) fun w z e3 r3 => wpAny_pure (by
    obtain ⟨I4, e4⟩ := r3.1.push { cls := .type "slice", data := .fields #[y, z, .none] } w.s.toks
    obtain ⟨Tn, id, hT, hl', hg⟩ := hx _ w.s.heap.objs.size _ _ I4 (e2.trans (e3.trans e4)) ((e3.trans e4).vr (X := Z.X) r2.2) (e4.vr (X := Z.X) r3.2) ⟨_, Heap.get?_push_size _ rfl, rfl, rfl⟩
    exact tail_any hT hl' (wpAny_mono hg (fun z' z' qq => Sat.from (e2.trans (e3.trans e4)) qq) fun z' z' x => x) rfl))
theorem eb_slc {F : Expr → N} {o : Expr} {a : N} {lo hi : Option Expr} {p0 : Pos} (ho : EOk Z o a) (hl : ∀ e, lo = some e → EOk Z e (F e)) (hh : ∀ e, hi = some e → EOk Z e (F e)) : EB Z (.Subscript o (.Slice lo hi none p0) pos) (.slc a (partN F lo) (partN F hi)) :=
  eb_value (fun z' => rfl) fun t σ Fr H I p e => bnd_get e fun b H1 h1 e => bnd_get e fun lo' H2 h2 e => bnd_get e fun hi' H3 h3 e =>
    Subscript_ (Sat.then (ho t σ Fr H I _ h1) fun u x e1 r1 => wpAny_mono (slc_run hl hh (Fr.ex e1) r1.1 h2 h3 fun w sl y z I4 e4 ry rz hs => slc_item I4 (e4.vr (X := Z.X) r1.2) ry rz hs e) (fun z' z' h => wpAny_mono h (fun z' z' qq => Sat.from e1 qq) fun z' z' x => x) fun z' z' x => x)
end

def PR : List (List Nat) → List V → List (Value × Value) → Prop
  | [], [], [] => True
  | k :: ks, v :: vs, p :: ps => (∃ t, p.1 = .str (toStr k) t) ∧ (∃ l u, v = .str l ∧ StrV l ∧ p.2 = .str (toStr l) u) ∧ PR ks vs ps
  | _, _, _ => False

theorem strE_eq {e : Expr} {l : List Nat} (h : strE e = some l) : StrV l ∧ ∃ a b, e = .Constant (.str (toStr l)) a b := by
  obtain ⟨q, _, h⟩ := Option.bind_eq_some_iff.mp h
  obtain ⟨x, _, h⟩ := Option.bind_eq_some_iff.mp h
  have k := strL_some h
  exact ⟨k.1, _, _, by rw [← k.2, ← x.2]; exact q.2⟩

section
variable {Z : Zx} {pos : Pos}
theorem keysOf_cons {c : Option Expr} {ks : List (Option Expr)} {k : List (List Nat)} (h : keysOf (c :: ks) = some k) : ∃ a b k1 kr, c = some (.Constant (.str (toStr k1)) a b) ∧ keysOf ks = some kr ∧ k = k1 :: kr := by
  obtain ⟨k1, h1, h⟩ := Option.bind_eq_some_iff.mp h
  obtain ⟨kr, h2, rfl⟩ := Option.map_eq_some_iff.mp h
  obtain ⟨e, rfl, h1⟩ := Option.bind_eq_some_iff.mp h1
  obtain ⟨_, a, b, rfl⟩ := strE_eq h1
  exact ⟨a, b, k1, kr, rfl, h2, rfl⟩
theorem valsOf_cons {c : Expr} {ks : List Expr} {k : List V} (h : valsOf (c :: ks) = some k) : ∃ a b k1 kr, StrV k1 ∧ c = .Constant (.str (toStr k1)) a b ∧ valsOf ks = some kr ∧ k = .str k1 :: kr := by
  obtain ⟨k1, h1, h⟩ := Option.bind_eq_some_iff.mp h
  obtain ⟨kr, h2, rfl⟩ := Option.map_eq_some_iff.mp h
  obtain ⟨z, a, b, rfl⟩ := strE_eq h1
  exact ⟨a, b, k1, kr, z, rfl, h2, rfl⟩

theorem pairs_wp {X : Cf} {A : Around} {env : Env} {Q : List (Value × Value) → Shared → Prop} : ∀ {ks : List (Option Expr)} {vs : List Expr} {k : List (List Nat)} {l : List V} {s : Shared}, keysOf ks = some k → valsOf vs = some l → k.length = l.length →
    (∀ prs tk, PR k l prs → Q prs { s with toks := tk }) → Wp X A (evalPairs (pairTrees ks vs env pos)) Q s
  | [], [], k, l, s, hk, hv, _, h => by
    cases hk; cases hv
    exact pairTrees_nil_walk (h [] s.toks trivial)
  | c :: ks, v :: vs, k, l, s, hk, hv, hl, h => by
    obtain ⟨a, b, k1, kr, rfl, hkr, rfl⟩ := keysOf_cons hk
    obtain ⟨a', b', l1, lr, z2, rfl, hlr, rfl⟩ := valsOf_cons hv
    refine pairTrees_cons_walk (wpAny_Constant_str (wpAny_Constant_str ?_))
    exact pairs_wp (s := { s with toks := _ }) hkr hlr (Nat.succ.inj hl) fun prs tk hp => h _ tk ⟨⟨_, rfl⟩, ⟨_, _, rfl, z2, rfl⟩, hp⟩
  | [], _ :: _, k, l, s, hk, hv, hl, _ => by
    cases hk
    obtain ⟨_, _, _, _, _, _, _, rfl⟩ := valsOf_cons hv
    cases hl
  | _ :: _, [], k, l, s, hk, hv, hl, _ => by
    cases hv
    obtain ⟨_, _, _, _, _, _, rfl⟩ := keysOf_cons hk
    cases hl

theorem pr_carries {prog : Program} {w : World} : ∀ {k : List (List Nat)} {l : List V} {prs : List (Value × Value)}, PR k l prs → Carries (strKind prog w) prs (prs.zipWith (fun p x => (toStr x, p.2)) k)
  | [], [], [], _ => trivial
  | k :: ks, v :: vs, p :: ps, h => by
    obtain ⟨⟨t, h1⟩, _, h3⟩ := h
    refine ⟨?_, rfl, pr_carries h3⟩
    rw [h1]; exact strKind_is prog w _ t
  | [], _ :: _, _, h => h.elim
  | _ :: _, [], _, h => h.elim
  | [], [], _ :: _, h => h.elim
  | _ :: _, _ :: _, [], h => h.elim
theorem pr_keys : ∀ {k : List (List Nat)} {l : List V} {prs : List (Value × Value)}, PR k l prs → (prs.zipWith (fun p x => (toStr x, p.2)) k).map (·.1) = k.map toStr
  | [], [], [], _ => rfl
  | k :: ks, v :: vs, p :: ps, h => congrArg (toStr k :: ·) (pr_keys h.2.2)
  | [], _ :: _, _, h => h.elim
  | _ :: _, [], _, h => h.elim
  | [], [], _ :: _, h => h.elim
  | _ :: _, _ :: _, [], h => h.elim
theorem pr_out {X : Cf} {t : St} : ∀ {k : List (List Nat)} {l : List V} {prs : List (Value × Value)} {es : List DictEntry}, PR k l prs → Pairs (strKind X.prog X.w) es (prs.zipWith (fun p x => (toStr x, p.2)) k) → (∀ e ∈ es, ∃ x, Value.isStrOf x e.key = true ∧ e.hash = PyData.keyHash X.w.params x) →
    KeysR X.w.params (k.map toStr) es ∧ VRL X t l (es.map (·.val))
  | [], [], [], [], _, _, _ => ⟨trivial, trivial⟩
  | k :: ks, v :: vs, p :: ps, e :: es, hp, hq, hh => by
    obtain ⟨⟨t, h1⟩, ⟨l, u, rfl, z, h2⟩, h3⟩ := hp
    simp only [List.zipWith_cons_cons] at hq
    cases hq with
    | cons q1 q2 q3 =>
      obtain ⟨r1, r2⟩ := pr_out h3 q3 fun e he => hh e (List.mem_cons_of_mem _ he)
      obtain ⟨x, x1, x2⟩ := hh e List.mem_cons_self
      obtain ⟨t', ht'⟩ := Value.isStrOf_shape q1
      have : x = toStr k := Value.isStrOf_inj _ _ _ x1 q1
      subst this
      refine ⟨⟨⟨t', ht'⟩, x2, r1⟩, ⟨z, u, ?_⟩, r2⟩
      exact q2.trans h2
  | [], [], [], _ :: _, _, hq, _ => nomatch hq
  | _ :: _, _ :: _, _ :: _, [], _, hq, _ => nomatch hq
  | [], _ :: _, _, _, h, _, _ => h.elim
  | _ :: _, [], _, _, h, _, _ => h.elim
  | [], [], _ :: _, _, h, _, _ => h.elim
  | _ :: _, _ :: _, [], _, h, _, _ => h.elim

theorem keysOf_facts : ∀ {ks : List (Option Expr)} {k : List (List Nat)}, keysOf ks = some k → ks.all (·.isSome) = true ∧ ks.length = k.length
  | [], k, h => by cases h; exact ⟨rfl, rfl⟩
  | c :: ks, k, h => by
    obtain ⟨a, b, k1, kr, rfl, hkr, rfl⟩ := keysOf_cons h
    obtain ⟨h1, h2⟩ := keysOf_facts hkr
    exact ⟨h1, congrArg (· + 1) h2⟩
theorem valsOf_facts : ∀ {ks : List Expr} {k : List V}, valsOf ks = some k → ks.length = k.length
  | [], k, h => by cases h; rfl
  | c :: ks, k, h => by
    obtain ⟨a, b, k1, kr, _, rfl, hkr, rfl⟩ := valsOf_cons h
    exact congrArg (· + 1) (valsOf_facts hkr)

theorem top_sys (B : Base Z.X) {t : St} {H : Hp} (I : Inv Z.X t H) : t.s.heap.objs.size ≠ sysModules :=
  have h2 : (sysModules : Nat) ≤ (mainGlobals : Nat) := by decide
  Nat.ne_of_gt (Nat.lt_of_le_of_lt h2 (B.mg.keeps I.keep).lt)

theorem eb_dict (B : Base Z.X) {ks : List (Option Expr)} {vs : List Expr} : EB Z (.Dict ks vs pos) (cDict ks vs) :=
  eb_oN fun k hk => eb_oN fun l hv => eb_gN fun hz => eb_value (fun z' => rfl) fun t σ Fr H I p e => by
    obtain ⟨h1, h2, h3⟩ := of_decide_eq_true hz
    cases e
    obtain ⟨f1, f2⟩ := keysOf_facts hk
    have f3 := valsOf_facts hv
    have nw : ¬ t.W t.s.heap.objs.size := fun z => Nat.lt_irrefl _ (I.wlt _ z)
    by_cases h0 : ks = []
    · subst h0
      cases hk
      have : l = [] := List.eq_nil_of_length_eq_zero h1.symm
      subst this
      have : vs = [] := List.eq_nil_of_length_eq_zero f3
      subst this
      obtain ⟨I2, e2⟩ := I.push { cls := .type "dict", data := .dict #[] } t.s.toks
      exact wpAny_Dict_empty ⟨_, rfl, e2, I2, _, [], 0, rfl, nw, top_sys B I, Heap.get?_push_size _ rfl, trivial, trivial⟩
    · refine wpAny_Dict_walk (knd := strKind Z.X.prog Z.X.w) f1 (by rw [f2, f3, h1]) h0 (by rw [f2]; exact h2) (pairs_wp hk hv h1 fun prs tk hp => ?_)
      refine ⟨_, pr_carries hp, ⟨_, #[], 0, Heap.get?_push_size _ rfl, ⟨rfl, rfl, rfl⟩, rfl, by intro e he; simp at he, .nil, by simp⟩, fun h' hd hs => ?_⟩
      have hnd : ((prs.zipWith (fun p x => (toStr x, p.2)) k).map (·.1)).Nodup := by
        rw [pr_keys hp]
        exact List.pairwise_map.mpr (h3.imp fun ne e => ne (toStr_inj e))
      rw [merged_nil_of_nodup _ hnd] at hd
      obtain ⟨o, es, ep, hg, hx, hdat, hkeys, hpairs, _⟩ := hd
      have kept : ∀ b o, t.s.heap.get? b = some o → h'.get? b = some o := fun b o g => by
        rw [hs.2 b (Nat.ne_of_lt (Heap.lt_size g))]; exact Heap.get?_push_of_some _ g
      have hsz : t.s.heap.objs.size ≤ h'.objs.size := by
        rw [hs.1]; show t.s.heap.objs.size ≤ (t.s.heap.push _).objs.size; rw [Heap.size_push]; exact Nat.le_succ _
      obtain ⟨I', e'⟩ := I.kept (h' := h') (tk + prs.length) kept hsz
      obtain ⟨r1, r2⟩ := pr_out (X := Z.X) (t := ⟨{ t.s with heap := h', toks := tk + prs.length }, t.α, t.W⟩) hp hpairs fun e he => hkeys e (by simpa using he)
      refine ⟨_, rfl, e', I', _, es.toList, ep, rfl, nw, top_sys B I, ?_, r1, r2⟩
      show h'.get? _ = _
      rw [hg]
      obtain ⟨c, d, dt, sl⟩ := o
      obtain ⟨x1, x2, x3⟩ := hx
      simp only at x1 x2 x3 hdat
      subst x1 x2 x3 hdat
      rfl
end
end

section

theorem itemAt_app {X : Cf} {t : St} {o : V} {x : Value} {n : Nat} {H : Hp} (G : Hp) (I : Inv X t H) (r : VRl X t o x) : itemAt o n (H ++ G) = itemAt o n H := by
  cases o with
  | ref i =>
    obtain ⟨p, hp, _⟩ := r
    have : i < H.length := by rw [← I.len]; exact (List.getElem?_eq_some_iff.mp hp).1
    show (((H ++ G)[i]?.bind listO).map fun vs => vs[n]?) = _
    rw [List.getElem?_append_left this]; rfl
  | _ => rfl

section
variable {Z : Zx} {pos : Pos}

theorem scopeOk_of {sc : Scope} {x : Str} (h : scopeOk sc x = true) : sc.kind = .function ∧ (∀ y ∈ sc.names, y.2 ≠ .free) ∧ (∀ y ∈ sc.names, y.2 ≠ .cell) ∧ (∀ y ∈ sc.names, y.2 = .local → sc.names.lookup y.1 = some .local) ∧ sc.names.lookup x = some .local := by
  unfold scopeOk at h
  simp only [Bool.and_eq_true, decide_eq_true_eq, List.all_eq_true] at h
  obtain ⟨⟨h1, h2⟩, h3⟩ := h
  refine ⟨h1, fun y hy => ?_, fun y hy => ?_, fun y hy => (h2 y hy).2, h3⟩
  · rcases (h2 y hy).1 with q | q <;> rw [q] <;> exact fun z => nomatch z
  · rcases (h2 y hy).1 with q | q <;> rw [q] <;> exact fun z => nomatch z

theorem relabel_id {sc : Scope} {env : Env} (h : ∀ y ∈ sc.names, y.2 ≠ .free) : relabel sc env = sc := by
  unfold relabel
  have : (sc.names.map fun (n, k) => if (k == .free && env.scope.kind == .function && env.kindOf n == some .cell) then (n, NameKind.cell) else (n, k)) = sc.names := by
    apply map_eq_self
    rintro ⟨n, k⟩ hx
    have : (k == NameKind.free) = false := beq_eq_false_iff_ne.mpr (h _ hx)
    simp only [this, Bool.false_and, Bool.false_eq_true, if_false]
  cases sc
  simp only at this ⊢
  rw [this]

theorem folded_id {e : Expr} {env : Env} (h : notSet e = true) (x : Value) : foldedSetIterable e env x = pure x := by
  cases e <;> first | rfl | cases h

theorem store_wp (O : Zok Z) {x : Str} {i : Nat} (hi : localIx Z.cx x = some i) {t : St} {H : Hp} {σ : List V} {v : V} {y : Value} {Q : Unit → Shared → Prop} {E' : Value → Shared → Prop} (I : Inv Z.X t H) (Fr : ZF Z t σ) (r : VRl Z.X t v y)
    (h : ∀ u, Inv Z.X u H → Ext (· = Z.env.locals) t u → ZF Z u (σ.set i v) → Q () u.s) : wpAny (model Z.X.prog Z.X.w) Z.A (storeName Z.env x y) Q E' t.s := by
  obtain ⟨q1, q2⟩ := local_facts O hi
  obtain ⟨m, hn, hv⟩ := Fr.ns
  refine wpAny_storeName_local q1 hn (fun h' hn' hs' => ?_) (by rw [O.C.kind]; rfl)
  obtain ⟨I', e'⟩ := I.turn (h' := h') (t.s.toks + 1) Fr.wL Fr.off hs'.extBut (Nat.le_of_eq hs'.1.symm)
  refine h _ I' e' ⟨⟨_, hn', fun j z u h1 h2 => ?_⟩, Fr.wL, Fr.off⟩
  obtain ⟨hlt, hxi, hfirst⟩ := List.idxOf?_eq_some_iff.mp q2
  by_cases hz : z = x
  · subst hz
    right
    by_cases hj : i = j
    · subst hj
      by_cases hlt2 : i < σ.length
      · rw [List.getElem?_set_self hlt2] at h2
        cases h2
        exact ⟨y, by simp, e'.vr (X := Z.X) r⟩
      · rw [List.getElem?_eq_none (by simpa using hlt2)] at h2; cases h2
    · exact absurd ((List.getElem?_inj hlt O.C.nd).mp (by rw [h1, List.getElem?_eq_getElem hlt, hxi])) hj
  · have hj : i ≠ j := fun q => by
      subst q
      rw [List.getElem?_eq_getElem hlt, hxi] at h1
      exact hz (Option.some.inj h1).symm
    rw [List.getElem?_set_ne hj] at h2
    rcases hv j z u h1 h2 with q | ⟨y', hy', r'⟩
    · exact .inl q
    · exact .inr ⟨y', by simp [hz, hy'], e'.vr (X := Z.X) r'⟩

theorem tests_sim {F : Expr → N} {ifs : List Expr} (hc : ∀ c, ifs = [c] → BOk Z c (F c)) {t : St} {σ : List V} (Fr : ZF Z t σ) :
    Sim Z.X Z.A noX t (forIn ifs true fun c r => if r = true then do let ok ← isTrue c Z.env (eval c Z.env); pure (ForInStep.yield ok) else pure (ForInStep.yield r)) (evalB Z.T (testsN F ifs) σ) bEq := by
  cases ifs with
  | nil => rw [List.forIn_nil]; exact simEq rfl (c' := ret true) (fun H p e => e) (simPure rfl)
  | cons c cs =>
    cases cs with
    | nil =>
      rw [List.forIn_cons]
      refine simEq rfl (c' := bnd (evalB Z.T (F c) σ) ret) (fun H p e => by rw [bnd_ret]; exact e) (Sim.bind (R := fun z' b r => r = ForInStep.yield b) ?_ fun u b r e1 hr => ?_)
      · rw [if_pos rfl]
        exact simEq rfl (c' := bnd (evalB Z.T (F c) σ) ret) (fun H p e => by rw [bnd_ret]; exact e) (Sim.bind (hc c rfl t σ Fr) fun u b b' e1 r1 => simPure (congrArg ForInStep.yield r1))
      · subst hr
        dsimp only
        rw [List.forIn_nil]
        exact simPure rfl
    | cons d ds => exact simNone fun H => rfl

noncomputable def compF (T : Tab) (a c : N) (acc v : V) : M Unit := bnd (bnd (evalE T c [v]) truthyM) fun t => bM t (bnd (evalE T a [v]) fun x => bnd (bmeth acc 0 [x]) fun z' => ret ()) (ret ())

structure CB (Z : Zx) (J : Addr) (acc : V) (D : Value) (t0 t : St) : Prop where
  e : Ext (fun b => b = J ∨ b = Z.env.locals) t0 t
  F : ZF Z t [.undef]
  ac : VRl Z.X t acc D
inductive CL (Z : Zx) (J : Addr) (o acc : V) (D : Value) (t0 : St) (a c : N) (p : Unit × Hp) (k : Nat) : Shared → Prop
  | mk (t : St) (H : Hp) (m : Nat) (I : Inv Z.X t H) (cb : CB Z J acc D t0 t) (it : ItAt Z.X t J o m) (run : compN (compF Z.T a c acc) o k m H = some p) : CL Z J o acc D t0 a c p k t.s
theorem CB.ext {J : Addr} {acc : V} {D : Value} {t0 t u : St} {E : Addr → Prop} (c : CB Z J acc D t0 t) (e : Ext E t u) (h : ∀ b, E b → b = J) (hJ : J ≠ Z.env.locals) : CB Z J acc D t0 u :=
  ⟨c.e.trans (e.to fun b q => .inl (.inl (h b q))), c.F.ext e fun q => hJ (h _ q).symm, e.vr (X := Z.X) c.ac⟩
theorem CB.sto {J : Addr} {acc : V} {D : Value} {t0 t u : St} {σ : List V} (c : CB Z J acc D t0 t) (e : Ext (· = Z.env.locals) t u) (F : ZF Z u σ) : CB Z J acc D t0 u :=
  ⟨c.e.trans (e.to fun b q => .inl (.inr q)), F.undef, e.vr (X := Z.X) c.ac⟩

theorem compN_get {f : V → M Unit} {o : V} {k n : Nat} {H : Hp} {p : Unit × Hp} {G : Prop} (e : compN f o k n H = some p) (g : ∀ j, k = j + 1 → ∀ r, itemAt o n H = some r → (match r with
    | none => ret ()
    | some v => bnd (f v) fun z' => compN f o j (n + 1)) H = some p → G) : G := by
  cases k with
  | zero => cases e
  | succ j => exact hB_get e fun b hb e => g j rfl b hb e
theorem test_split {K1 K2 : Prop} {b t : Bool} (h : b = t) (h1 : t = true → K1) (h2 : t = false → K2) : if b = true then K1 else K2 := by
  subst h
  cases b
  · exact h2 rfl
  · exact h1 rfl
theorem comp_loop (O : Zok Z) {elt iter : Expr} {ifs : List Expr} {x : Str} {px : Pos} {sc : Scope} {F : Expr → N} (hx : localIx Z.cx x = some 0)
    (he : EOk Z elt (F elt)) (hc : ∀ c, ifs = [c] → BOk Z c (F c)) {t0 : St} {J : Addr} {acc o : V} {D : Value} {RR : Result → Shared → Prop} {p : Unit × Hp} (hJC : J ≠ Z.env.locals)
    (k : ∀ t, Inv Z.X t p.2 → CB Z J acc D t0 t → RR (.ok .next) t.s)
    {fuel : Nat} {s : Shared} (cl : CL Z J o acc D t0 (F elt) (testsN F ifs) p fuel s) :
    codeAny (model Z.X.prog Z.X.w) Z.A (.compLoop (.ListComp elt [⟨.Name x px, iter, ifs, 0⟩] sc pos) 0 (.ref J) D Z.env) RR s := by
  refine codeAny_compLoop_tests (CL Z J o acc D t0 (F elt) (testsN F ifs) p) ?_ fuel cl
  intro fuel s cl
  induction cl with
  | mk t H m I cb it run => ?_
  refine compN_get run fun f hk ov hit run => next_split O.R.handled I it hit (fun ho u1 I1 e1 => ?_) fun v ho u1 y I1 e1 ry it1 => wpAny_assign_Name (store_wp O hx I1 (cb.F.ext e1 (Ne.symm hJC)) ry fun u2 I2 e2 F2 => ?_)
  · rw [ho] at run
    cases run
    exact k u1 I1 (cb.ext e1 (fun z' q => q) hJC)
  · rw [ho] at run
    have cb2 := (cb.ext e1 (fun z' q => q) hJC).sto e2 F2
    refine bnd_get (c := compF Z.T (F elt) (testsN F ifs) acc v) run fun b0 H4 hf run => bnd_get hf fun tv H3 hf1 hf => Sat.then (tests_sim hc F2 H I2 _ hf1) fun u3 b e3 q3 => test_split q3.2 (fun (ht : tv = true) => ?_) fun (ht : tv = false) => ?_
    · rw [ht] at hf
      refine bnd_get (c := evalE Z.T (F elt) [v]) (d := fun x => bnd (bmeth acc 0 [x]) fun z' => ret ()) hf fun xv H5 hf2 hf => bnd_get hf fun z' H6 hf3 hf => Sat.then (he u3 [v] (F2.ex e3) H3 q3.1 _ hf2) fun u4 z e4 q4 => ?_
      cases hf
      have cb4 := (cb2.ext e3 (fun z' q => q.elim) hJC).ext e4 (fun z' q => q.elim) hJC
      exact Sat.then (bmeth_sim (E := noX) (m := 0) (vs := [xv]) (xs := [z]) cb4.ac ⟨q4.2, trivial⟩ H5 q4.1 _ hf3) fun u5 z' e5 q5 => ⟨f, hk ▸ Nat.lt_succ_self _, u5, _, m + 1, q5.1, cb4.ext e5 (fun z' q => q.elim) hJC, (((it1.ext e2 hJC).ext e3 fun h => h).ext e4 fun h => h).ext e5 fun h => h, run⟩
    · rw [ht] at hf
      cases hf
      exact ⟨f, hk ▸ Nat.lt_succ_self _, u3, _, m + 1, q3.1, cb2.ext e3 (fun z' q => q.elim) hJC, (it1.ext e2 hJC).ext e3 fun h => h, run⟩

theorem newNil_sat {X : Cf} {A : Around} {t : St} {H : Hp} (I : Inv X t H) : Sat X A noX t (newList []) fun u a => Inv X u (H ++ [.list []]) ∧ VRl X u (.ref H.length) a :=
  wpAny_newObj_type (QQ.newList I (vs := []) (xs := []) trivial (Nat.zero_le _))

theorem comp_env (O : Zok Z) {sc : Scope} {x : Str} (hs : scopeOk sc x = true) {u : St} {H : Hp} (I : Inv Z.X u H) {Q : Env → Shared → Prop} {E' : Value → Shared → Prop}
    (k : ∀ env v, Inv Z.X v H → Ext noX u v → env.locals = u.s.heap.objs.size → CxOk Z.X ⟨[x], sc.names, Z.cx.G⟩ { env with scope := relabel sc Z.env } → Frm Z.X v u.s.heap.objs.size [x] [.undef] → Q env v.s) :
    wpAny (model Z.X.prog Z.X.w) Z.A (newFunctionEnv sc Z.env.globals [] [] Z.env.qual none .none (some Z.env)) Q E' u.s := by
  obtain ⟨q1, q2, q3, q4, q5⟩ := scopeOk_of hs
  refine wpAny_newFunctionEnv q3 (by intro y hy; cases hy) (fun h4 hns4 hsb4 => ?_) q1
  obtain ⟨I4, e4⟩ := I.watch (h' := h4) (L := u.s.heap.objs.size) (u.s.toks + 0) (fun b o g => by rw [hsb4.2 b (Nat.ne_of_lt (Heap.lt_size g))]; exact Heap.get?_push_of_some _ g) (Nat.le_refl _) (by rw [hsb4.1, Heap.size_push]; exact Nat.lt_succ_self _)
  exact k _ _ I4 e4 rfl ⟨by rw [relabel_id q2]; exact q1, by rw [relabel_id q2], O.C.gl, O.C.bi, by simp, O.C.glob⟩ ⟨⟨_, hns4, fun i z v z' h2 => .inl (by cases i <;> cases h2; rfl)⟩, .inr rfl, fun z => Nat.lt_irrefl _ (I.wlt _ (I.footW z))⟩

noncomputable def compM (T : Tab) (a c : N) (ci : M V) : M V := bnd ci fun o => bnd (newL []) fun acc => bnd (compN (compF T a c acc) o FUEL 0) fun z' => ret acc
theorem comp_core (O : Zok Z) {elt : Expr} {gens : List Comprehension} {x : Str} {iter : Expr} {ifs : List Expr} {sc : Scope} {p0 : Pos} {use : Option (Value → Sem Unit)} {Q : Value → Shared → Prop} {F : Expr → N} (hg : genOf gens = some (x, iter, ifs)) (hs : scopeOk sc x = true) (hn : notSet iter = true)
    (he : ∀ env', CxOk Z.X ⟨[x], sc.names, Z.cx.G⟩ env' → ∀ e, EB { Z with cx := ⟨[x], sc.names, Z.cx.G⟩, env := env' } e (F e))
    {t : St} {H : Hp} {p : V × Hp} {ci : M V} (hi : Sim Z.X Z.A noX t (eval iter Z.env) ci (VRl Z.X)) (I : Inv Z.X t H) (e : compM Z.T (F elt) (testsN F ifs) ci H = some p)
    (k : ∀ acc D u, Inv Z.X u p.2 → Ext noX t u → VRl Z.X u p.1 acc → Frm Z.X u D [x] [.undef] → t.s.heap.objs.size ≤ D → compPost (model Z.X.prog Z.X.w) Z.A noE use Q acc D (.ok .next) u.s) :
    Wp Z.X Z.A (comprehension (.ListComp elt gens sc pos) sc Z.env p0 (newList []) false (firstIter gens Z.env) use) Q t.s := by
  obtain ⟨px, rfl⟩ := genOf_eq hg
  have q := scopeOk_of hs
  refine bnd_get (c := ci) e fun o H1 h1 e => bnd_get (c := newL []) (d := fun acc => bnd (compN (compF Z.T (F elt) (testsN F ifs) acc) o FUEL 0) fun z' => ret acc) e fun acc H2 h2 e => bnd_get (c := compN (compF Z.T (F elt) (testsN F ifs) acc) o FUEL 0) (d := fun z' => ret acc) e fun b H3 h3 e3 => ?_
  cases e3
  cases h2
  refine wpAny_comprehension_free rfl (folded_id hn) (closureFor_none q.2.1) q.1 q.2.2.2.1 (Sat.then (hi H I _ h1) fun u1 x1 e1 z1 => ?_)
  have hit : (itemAt o 0 H1).isSome := by
    rw [← itemAt_app [Mine.O.list []] z1.1 z1.2]
    exact hB_get h3 fun b h z' => by rw [h]; rfl
  refine Sat.then (it_start z1.1 z1.2 hit) fun u2 x2 e2 z2 => ?_
  obtain ⟨J, rfl, hJ, it2⟩ := z2.2
  refine Sat.then (newNil_sat z2.1) fun u3 D e3 z3 => comp_env O hs z3.1 fun env u4 I4 e4 hl C F4 => ?_
  have hs2 : t.s.heap.objs.size ≤ u3.s.heap.objs.size := Nat.le_trans e1.size (Nat.le_trans e2.size e3.size)
  have it4 := (it2.ext e3 fun h => h).ext e4 fun h => h
  have hJC : J ≠ u3.s.heap.objs.size := Nat.ne_of_lt (it2.ext e3 fun h => h).lt
  rw [← hl] at F4 hJC hs2
  have loop := comp_loop (Z := { Z with cx := ⟨[x], sc.names, Z.cx.G⟩, env := { env with scope := relabel sc Z.env } }) (iter := iter) (px := px) (sc := sc) (pos := pos) (o := o) (t0 := u4) (RR := compPost (model Z.X.prog Z.X.w) Z.A noE use Q D env.locals) ⟨O.B, O.R, O.TS, C⟩
    (by unfold localIx; rw [if_pos q.2.2.2.2]; simp [List.idxOf?_cons]) (he _ C _).1 (fun c z' => (he _ C c).2) hJC (fun u5 I5 c5 => ?_) ⟨u4, _, 0, I4, ⟨.refl, F4, e4.vr (X := Z.X) z3.2⟩, it4, h3⟩
  · exact codeAny_compStart_list loop (it_self it4 loop)
  · exact k _ _ u5 I5 (((e1.trans (e2.trans (e3.trans e4))).no.trans c5.e).to fun b hb => .inr (by
      rcases hb with rfl | rfl
      · exact Nat.le_trans e1.size hJ
      · exact hs2)) c5.ac c5.F hs2

theorem firstAsync_of {gens : List Comprehension} {g : Str × Expr × List Expr} (hg : genOf gens = some g) : firstAsync gens = false := by
  obtain ⟨px, rfl⟩ := genOf_eq hg
  rfl

theorem eb_comp (O : Zok Z) {elt : Expr} {gens : List Comprehension} {sc : Scope} {F : Cx → Expr → N} (hF : ∀ env' cx', CxOk Z.X cx' env' → ∀ e, EB { Z with cx := cx', env := env' } e (F cx' e)) : EB Z (.ListComp elt gens sc pos) (cComp F Z.cx elt gens sc) :=
  eb_oN fun g hg => eb_gN fun hs => eb_value (fun z' => rfl) fun t σ Fr H I p e => by
    rw [Bool.and_eq_true] at hs
    rw [arm_eval_ListComp]
    dsimp only
    rw [firstAsync_of hg]
    refine comp_core O (x := g.1) (iter := g.2.1) (ifs := g.2.2) hg hs.1 hs.2 (fun env' C e => hF env' _ C e) ((hF Z.env Z.cx O.C g.2.1).1 t σ Fr) I e fun acc D u I' e1 r F1 nD => ?_
    obtain ⟨m, hm, _⟩ := F1.ns
    refine ⟨m, hm, fun h' hs' => ?_⟩
    obtain ⟨I2, e2⟩ := I'.turn (h' := h') u.s.toks F1.wL F1.off hs'.extBut (Nat.le_of_eq hs'.1.symm)
    exact ⟨_, rfl, (e1.no.trans e2).to fun b q => .inr (q ▸ nD), I2, e2.vr (X := Z.X) r⟩
end

theorem cE_ok : ∀ (d : Nat) (Z : Zx), Zok Z → ∀ pe, EB Z pe (cE d Z.cx pe)
  | 0, Z, O, pe => eb_bad
  | d + 1, Z, O, pe => by
    have ih : ∀ pe, EB Z pe (cE d Z.cx pe) := cE_ok d Z O
    cases pe with
    | Constant c k p => exact eb_const
    | Name x p => exact eb_name O
    | BoolOp op vs p => exact eb_bool fun e z' => ih e
    | BinOp l op r p => exact eb_bin (ih l).1 (ih r).1
    | UnaryOp op x p =>
      cases op with
      | Not => exact eb_not (ih x)
      | USub => exact eb_neg (ih x).1
      | _ => exact eb_bad
    | IfExp c a b p => exact eb_ite (ih c) (ih a) (ih b)
    | Dict ks vs p => exact eb_dict O.B
    | List es p => exact eb_gN fun h => eb_list h (fun e z' => (ih e).1)
    | Tuple es k p => exact eb_gN fun h => eb_tup h (fun e z' => (ih e).1)
    | ListComp elt gens sc p => exact eb_comp O fun env' cx' C' => cE_ok d { Z with cx := cx', env := env' } ⟨O.B, O.R, O.TS, C'⟩
    | Compare l ops rs p =>
      show EB _ _ (cCmp (cE d Z.cx) l ops rs)
      unfold cCmp
      cases h1 : oneL ops with
      | some op =>
        refine eb_oN fun r hr => eb_gN fun hs => ?_
        rw [oneL_eq h1, oneL_eq hr]
        exact eb_cmp O hs (ih l).1 (ih r).1
      | none =>
        refine eb_oN fun op ho => eb_oN fun r hr => eb_gN fun hs => ?_
        rw [Bool.and_eq_true] at hs
        rw [twoL_eq ho, twoL_eq hr]
        exact eb_cmp2 O hs.1 hs.2 (ih l).1 (ih r.1).1 (ih r.2).1
    | Call f args kw p =>
      refine eb_gN fun h => ?_
      rw [Bool.and_eq_true, List.isEmpty_iff] at h
      obtain ⟨rfl, hn⟩ := h
      cases hf : nameE f with
      | some x =>
        obtain ⟨np, rfl⟩ := nameE_eq hf
        refine eb_gN fun hd => eb_oN fun g hg => ?_
        rw [Bool.not_eq_true'] at hd
        cases g with
        | fn a => exact eb_call O hn hd hg (fun e z' => (ih e).1)
        | bi b => exact eb_bi O hn hd hg (fun e z' => (ih e).1)
        | lit v => exact eb_bad
      | none =>
        refine eb_oN fun q hq => eb_oN fun m hm => eb_gN fun hg => ?_
        rw [attrE_eq hq]
        exact eb_meth O hm hn hg (ih _).1 (fun e z' => (ih e).1)
    | Attribute o name p => exact eb_attr O (ih o).1
    | Subscript o i p =>
      show EB _ _ (cSub (cE d Z.cx) o i)
      unfold cSub
      cases hs : noSlice i with
      | true => exact eb_idx hs (ih o).1 (ih i).1
      | false =>
        refine eb_oN fun q hq => ?_
        obtain ⟨sp, rfl⟩ := sliceE_eq hq
        exact eb_slc (ih o).1 (fun e z' => (ih e).1) (fun e z' => (ih e).1)
    | _ => exact eb_bad
end

section

def flR (X : Cf) (t : St) : Fl → Flow → Prop
  | .next, .next => True
  | .brk, .brk => True
  | .rtn v, .ret x => VRl X t v x
  | _, _ => False
theorem flR_cases {X : Cf} {t : St} {f : Fl} {g : Flow} (h : flR X t f g) : (f = .next ∧ g = .next) ∨ (f = .brk ∧ g = .brk) ∨ ∃ v x, f = .rtn v ∧ g = .ret x ∧ VRl X t v x := by
  cases f <;> cases g <;> first | exact h.elim | exact .inl ⟨rfl, rfl⟩ | exact .inr (.inl ⟨rfl, rfl⟩) | exact .inr (.inr ⟨_, _, rfl, rfl, h⟩)

abbrev atL (Z : Zx) : Addr → Prop := (· = Z.env.locals)
def SR (Z : Zx) (t : St) (r : Fl × List V) (g : Flow) : Prop := ZF Z t r.2 ∧ flR Z.X t r.1 g
def SOk (Z : Zx) (ps : Stmt) (n : N) : Prop := ∀ (t : St) (σ : List V), ZF Z t σ → Sim Z.X Z.A (atL Z) t (exec ps Z.env) (execS Z.T n σ) (SR Z)
def SsOk (Z : Zx) (ps : List Stmt) (n : N) : Prop := ∀ (t : St) (σ : List V), ZF Z t σ → Sim Z.X Z.A (atL Z) t (execs ps Z.env) (execSs Z.T n σ) (SR Z)

section
variable {Z : Zx} {pos : Pos}
theorem sok_bad {ps : Stmt} : SOk Z ps .bad := fun t σ F => simNone fun z' => rfl
theorem sok_oN {ps : Stmt} {α : Type} {o : Option α} {f : α → N} (h : ∀ a, o = some a → SOk Z ps (f a)) : SOk Z ps (oN o f) := by
  cases o with
  | none => exact sok_bad
  | some a => exact h a rfl
theorem sok_gN {ps : Stmt} {b : Bool} {n : N} (h : b = true → SOk Z ps n) : SOk Z ps (gN b n) := by
  cases b with
  | false => exact sok_bad
  | true => exact h rfl

theorem execs_cons_sim {ps : List Stmt} {p : Stmt} {a b : N} (h : SOk Z p a) (g : SsOk Z ps b) : SsOk Z (p :: ps) (.cons a b) := fun t σ F H I q e => by
  obtain ⟨⟨⟨f, σ1⟩, H1⟩, h1, e⟩ := bnd_some e
  refine wpAny_execs_cons (Sat.then (h t σ F H I _ h1) fun u fw e1 r => ?_)
  obtain ⟨I1, F1, r1⟩ := r
  rcases flR_cases r1 with ⟨rfl, rfl⟩ | ⟨rfl, rfl⟩ | ⟨v, x, rfl, rfl, rv⟩
  · exact wpAny_mono (g u σ1 F1 H1 I1 q e) (fun z' z' qq => Sat.from e1 qq) fun z' z' x => x
  · cases e; exact ⟨u, rfl, e1, I1, F1, r1⟩
  · cases e; exact ⟨u, rfl, e1, I1, F1, r1⟩

theorem ssok {F : Stmt → N} : ∀ (ps : List Stmt), (∀ p ∈ ps, SOk Z p (F p)) → SsOk Z ps (toN (ps.map F))
  | [], _ => fun t σ F H I q e => by cases e; exact wpAny_execs_nil (Sat.here ⟨I, F, trivial⟩)
  | p :: ps, h => execs_cons_sim (h p List.mem_cons_self) (ssok ps fun q hq => h q (List.mem_cons_of_mem _ hq))

theorem interactive_no (O : Zok Z) : interactive Z.env = false := by
  unfold interactive; rw [O.C.kind]; rfl
theorem swap_no {v : Expr} {t : Option Expr} {l : Nat} {env : Env} (h : isComp v = false) : swapsWith v t l env = pure false := by
  cases v <;> first | (cases h; done) | rfl
theorem not_t {b : Bool} (h : (!b) = true) : b = false := by cases b <;> first | rfl | cases h

theorem sok_expr (O : Zok Z) {pe : Expr} {e : N} (hc : (!isComp pe) = true) (he : EOk Z pe e) : SOk Z (.Expr pe pos) (.expr e) := fun t σ F H I q ev => by
  obtain ⟨p, h1, ev⟩ := bnd_some (show bnd (evalE Z.T e σ) (fun z' => ret (Fl.next, σ)) H = some q from ev)
  cases ev
  exact wpAny_Expr_any (Sat.then (he t σ F H I p h1) fun u a e1 r => ⟨u, rfl, e1.no, r.1, F.ex e1, trivial⟩) (interactive_no O) (swap_no (not_t hc))

theorem sok_rtn {F : Expr → N} {l : Option Expr} (h : ∀ e, l = some e → EOk Z e (F e)) : SOk Z (.Return l pos) (.rtn (partN F l)) := fun t σ Fr H I q ev => by
  obtain ⟨p, h1, ev⟩ := bnd_some (show bnd (evalE Z.T (partN F l) σ) (fun v => ret (Fl.rtn v, σ)) H = some q from ev)
  cases ev
  cases l with
  | none => cases h1; exact wpAny_Return_none (Sat.here ⟨I, Fr, rfl⟩)
  | some pe => exact wpAny_Return_some (Sat.then (h pe rfl t σ Fr H I p h1) fun u a e1 r => ⟨u, rfl, e1.no, r.1, Fr.ex e1, r.2⟩)

theorem sok_sif {c : Expr} {a b : List Stmt} {ec sa sb : N} (hc : BOk Z c ec) (ha : SsOk Z a sa) (hb : SsOk Z b sb) : SOk Z (.If c a b pos) (.sif ec sa sb) := fun t σ F H I q ev => by
  obtain ⟨⟨b, H1⟩, h1, ev⟩ := bnd_some (show bnd (evalB Z.T ec σ) (fun t => bM t (execSs Z.T sa σ) (execSs Z.T sb σ)) H = some q from ev)
  refine wpAny_If (Sat.then (hc t σ F H I _ h1) fun u b' e1 r => ?_)
  obtain ⟨I1, rfl⟩ := r
  cases b'
  · exact wpAny_mono (hb u σ (F.ex e1) H1 I1 q ev) (fun z' z' qq => Sat.from e1.no qq) fun z' z' x => x
  · exact wpAny_mono (ha u σ (F.ex e1) H1 I1 q ev) (fun z' z' qq => Sat.from e1.no qq) fun z' z' x => x

theorem sok_setA (O : Zok Z) {o v : Expr} {name : Str} {f : Nat} {eo ev : N} {p0 : Pos} (hf : attrNames.idxOf? name = some f) (hc : (!isComp v) = true) (ho : EOk Z o eo) (hv : EOk Z v ev) : SOk Z (.Assign [.Attribute o name p0] v pos) (.setA eo f ev) := fun t σ F H I q e => by
  obtain ⟨p1, h1, e⟩ := bnd_some (show bnd (evalE Z.T ev σ) (fun v => bnd (evalE Z.T eo σ) fun x => bnd (setAttrV x f v) fun z' => ret (Fl.next, σ)) H = some q from e)
  obtain ⟨p2, h2, e⟩ := bnd_some e
  obtain ⟨p3, h3, e⟩ := bnd_some e
  cases e
  rw [ix_name hf]
  refine plainObj_wpAny_Assign_Attribute (Sat.then (hv t σ F H I _ h1) fun u a e1 r1 => Sat.then (ho u σ (F.ex e1) _ r1.1 _ h2) fun v b e2 r2 => ?_) (swap_no (not_t hc))
  exact Sat.then (setAttr_sim (E := noX) O.B r2.2 (e2.vr (X := Z.X) r1.2) _ r2.1 _ h3) fun w z' e3 r3 => ⟨w, rfl, (e1.trans (e2.trans e3)).no, r3.1, ((F.ex e1).ex e2).ex e3, trivial⟩

theorem sok_setI {o i v : Expr} {eo ei ev : N} {p0 : Pos} (hc : isComp v = false) (ho : EOk Z o eo) (hi : EOk Z i ei) (hv : EOk Z v ev) : SOk Z (.Assign [.Subscript o i p0] v pos) (.setI eo ei ev) := fun t σ F H I q e => by
  obtain ⟨p1, h1, e⟩ := bnd_some (show bnd (evalE Z.T ev σ) (fun v => bnd (evalE Z.T eo σ) fun x => bnd (evalE Z.T ei σ) fun y => bnd (setIdxV x y v) fun z' => ret (Fl.next, σ)) H = some q from e)
  obtain ⟨p2, h2, e⟩ := bnd_some e
  obtain ⟨p3, h3, e⟩ := bnd_some e
  obtain ⟨p4, h4, e⟩ := bnd_some e
  cases e
  refine wpAny_Assign_Subscript (Sat.then (hv t σ F H I _ h1) fun u a e1 r1 => Sat.then (ho u σ (F.ex e1) _ r1.1 _ h2) fun v b e2 r2 => Sat.then (hi v σ ((F.ex e1).ex e2) _ r2.1 _ h3) fun w c e3 r3 => ?_) (swap_no hc)
  exact Sat.then (setIdx_sim (E := noX) (e3.vr (X := Z.X) r2.2) r3.2 ((e2.trans e3).vr (X := Z.X) r1.2) _ r3.1 _ h4) fun w z' e4 r4 => ⟨w, rfl, (e1.trans (e2.trans (e3.trans e4))).no, r4.1, (((F.ex e1).ex e2).ex e3).ex e4, trivial⟩

theorem sok_aug (O : Zok Z) {x : Str} {i : Nat} {op : Operator} {v : Expr} {ev : N} {p0 : Pos} (hx : localIx Z.cx x = some i) (hv : EOk Z v ev) : SOk Z (.AugAssign (.Name x p0) op v pos) (.aug i op ev) := fun t σ F H I q e => by
  obtain ⟨p1, h1, e⟩ := bnd_some (show bnd (locV σ i) (fun old => bnd (evalE Z.T ev σ) fun v => bnd (augV op old v) fun r => ret (Fl.next, σ.set i r)) H = some q from e)
  obtain ⟨p2, h2, e⟩ := bnd_some e
  obtain ⟨p3, h3, e⟩ := bnd_some e
  cases e
  refine wpAny_AugAssign_Name (Sat.then (loc_sim O hx F H I _ h1) fun u a e1 r1 => Sat.then (hv u σ (F.ex e1) _ r1.1 _ h2) fun v b e2 r2 => ?_)
  refine Sat.then (aug_sim (E := noX) (e2.vr (X := Z.X) r1.2) r2.2 _ r2.1 _ h3) fun w c e3 r3 => ?_
  exact store_wp O hx r3.1 (((F.ex e1).ex e2).ex e3) r3.2 fun z I4 e4 F4 => ⟨z, rfl, (e1.trans (e2.trans e3)).no.trans e4, I4, F4, trivial⟩

theorem sok_augA (O : Zok Z) {o v : Expr} {name : Str} {f : Nat} {op : Operator} {eo ev : N} {p0 : Pos} (hf : attrNames.idxOf? name = some f) (ho : EOk Z o eo) (hv : EOk Z v ev) : SOk Z (.AugAssign (.Attribute o name p0) op v pos) (.augA eo f op ev) := fun t σ F H I q e => by
  obtain ⟨p1, h1, e⟩ := bnd_some (show bnd (evalE Z.T eo σ) (fun x => bnd (attrV x f) fun old => bnd (evalE Z.T ev σ) fun v => bnd (augV op old v) fun r => bnd (setAttrV x f r) fun z' => ret (Fl.next, σ)) H = some q from e)
  obtain ⟨p2, h2, e⟩ := bnd_some e
  obtain ⟨p3, h3, e⟩ := bnd_some e
  obtain ⟨p4, h4, e⟩ := bnd_some e
  obtain ⟨p5, h5, e⟩ := bnd_some e
  cases e
  rw [ix_name hf]
  refine wpAny_AugAssign_AttributeAny (Sat.then (ho t σ F H I _ h1) fun u a e1 r1 => Sat.then (attr_sim (E := noX) O.B r1.2 _ r1.1 _ h2) fun v b e2 r2 => Sat.then (hv v σ ((F.ex e1).ex e2) _ r2.1 _ h3) fun w c e3 r3 => ?_)
  refine Sat.then (aug_sim (E := noX) (e3.vr (X := Z.X) r2.2) r3.2 _ r3.1 _ h4) fun w2 d e4 r4 => ?_
  exact Sat.then (setAttr_sim (E := noX) O.B ((e2.trans (e3.trans e4)).vr (X := Z.X) r1.2) r4.2 _ r4.1 _ h5) fun z z' e5 r5 => ⟨z, rfl, (e1.trans (e2.trans (e3.trans (e4.trans e5)))).no, r5.1, ((((F.ex e1).ex e2).ex e3).ex e4).ex e5, trivial⟩

theorem sok_augI {o i v : Expr} {op : Operator} {eo ei ev : N} {p0 : Pos} (hs : noSlice i = true) (ho : EOk Z o eo) (hi : EOk Z i ei) (hv : EOk Z v ev) : SOk Z (.AugAssign (.Subscript o i p0) op v pos) (.augI eo ei op ev) := fun t σ F H I q e => by
  obtain ⟨p1, h1, e⟩ := bnd_some (show bnd (evalE Z.T eo σ) (fun x => bnd (evalE Z.T ei σ) fun y => bnd (idxV x y) fun old => bnd (evalE Z.T ev σ) fun v => bnd (augV op old v) fun r => bnd (setIdxV x y r) fun z' => ret (Fl.next, σ)) H = some q from e)
  obtain ⟨p2, h2, e⟩ := bnd_some e
  obtain ⟨p3, h3, e⟩ := bnd_some e
  obtain ⟨p4, h4, e⟩ := bnd_some e
  obtain ⟨p5, h5, e⟩ := bnd_some e
  obtain ⟨p6, h6, e⟩ := bnd_some e
  cases e
  refine wpAny_AugAssign_SubscriptAny (Sat.then (ho t σ F H I _ h1) fun u a e1 r1 => Sat.then (hi u σ (F.ex e1) _ r1.1 _ h2) fun v b e2 r2 => ?_) (by intro a b c; cases i <;> first | rfl | cases hs)
  obtain ⟨_, _, _, _, hg⟩ := idx_item (A := Z.A) (E := noX) r2.1 (e2.vr (X := Z.X) r1.2) r2.2 h3
  refine Sat.then hg fun w c e3 r3 => Sat.then (hv w σ (((F.ex e1).ex e2).ex e3) _ r3.1 _ h4) fun w2 d e4 r4 => Sat.then (aug_sim (E := noX) (e4.vr (X := Z.X) r3.2) r4.2 _ r4.1 _ h5) fun w3 g e5 r5 => ?_
  exact Sat.then (setIdx_sim (E := noX) ((e2.trans (e3.trans (e4.trans e5))).vr (X := Z.X) r1.2) ((e3.trans (e4.trans e5)).vr (X := Z.X) r2.2) r5.2 _ r5.1 _ h6) fun z z' e6 r6 => ⟨z, rfl, (e1.trans (e2.trans (e3.trans (e4.trans (e5.trans e6))))).no, r6.1, (((((F.ex e1).ex e2).ex e3).ex e4).ex e5).ex e6, trivial⟩

abbrev LoopK (Z : Zx) (E : Addr → Prop) (t0 : St) (q : (Fl × List V) × Hp) (R : Result → Shared → Prop) : Prop := ∀ u g, Inv Z.X u q.2 → Ext E t0 u → SR Z u q.1 g → R (.ok g) u.s
theorem turned_sim {R : Result → Shared → Prop} {E : Addr → Prop} {t0 u : St} {r : Fl × List V} {k : List V → Ms} {H : Hp} {q : (Fl × List V) × Hp} {g : Flow} {N : Prop} (I : Inv Z.X u H) (e : Ext E t0 u) (h : SR Z u r g) (run : turned r k H = some q) (kk : LoopK Z E t0 q R) (hn : ZF Z u r.2 → k r.2 H = some q → N) :
    match (generalizing := false) g with
    | .next | .cont => N
    | .brk => R (.ok .next) u.s
    | .ret v => R (.ok (.ret v)) u.s := by
  obtain ⟨f, σ⟩ := r
  rcases flR_cases h.2 with ⟨hf, rfl⟩ | ⟨hf, rfl⟩ | ⟨v, x, hf, rfl, rv⟩ <;> cases hf
  · exact hn h.1 run
  · cases run; exact kk u _ I e ⟨h.1, trivial⟩
  · cases run; exact kk u _ I e ⟨h.1, rv⟩

inductive WInv (Z : Zx) (t0 : St) (c : List V → M Bool) (b : List V → Ms) (q : (Fl × List V) × Hp) (k : Nat) : Shared → Prop
  | mk (t : St) (σ : List V) (H : Hp) (I : Inv Z.X t H) (e : Ext (atL Z) t0 t) (F : ZF Z t σ) (run : whileN c b k σ H = some q) : WInv Z t0 c b q k t.s

theorem whileN_get {c : List V → M Bool} {b : List V → Ms} {k : Nat} {σ : List V} {H : Hp} {q : (Fl × List V) × Hp} {G : Prop} (e : whileN c b k σ H = some q) (g : ∀ j, k = j + 1 → bnd (c σ) (fun t => bM t (bnd (b σ) fun r => turned r (whileN c b j)) (ret (.next, σ))) H = some q → G) : G := by
  cases k with
  | zero => cases e
  | succ j => exact g j rfl e
theorem while_loop {c : Expr} {b : List Stmt} {ec sb : N} (hc : BOk Z c ec) (hb : SsOk Z b sb) {t0 : St} {q : (Fl × List V) × Hp} {R : Result → Shared → Prop} (kk : LoopK Z (atL Z) t0 q R) {k : Nat} {s : Shared} (w : WInv Z t0 (evalB Z.T ec) (execSs Z.T sb) q k s) :
    codeAny (model Z.X.prog Z.X.w) Z.A (.whileLoop c b [] Z.env) R s := by
  refine codeAny_whileLoop (WInv Z t0 (evalB Z.T ec) (execSs Z.T sb) q) ?_ k w
  intro k s w
  induction w with
  | mk t σ H I e F run => ?_
  refine whileN_get run fun j hk run => bnd_get run fun bb H2 h2 run => Sat.then (hc t σ F H I _ h2) fun u b' e2 r2 => test_split r2.2 (fun (hb' : bb = true) => ?_) fun (hb' : bb = false) => ?_
  · rw [hb'] at run
    refine bnd_get (c := execSs Z.T sb σ) (d := fun r => turned r (whileN (evalB Z.T ec) (execSs Z.T sb) j)) run fun r H3 h3 run => Sat.then (hb u σ (F.ex e2) H2 r2.1 _ h3) fun v g e3 r3 => ?_
    have e03 := e.trans (e2.no.trans e3)
    exact turned_sim r3.1 e03 r3.2 run kk fun F3 run => ⟨j, hk ▸ Nat.lt_succ_self _, v, r.2, H3, r3.1, e03, F3, run⟩
  · rw [hb'] at run
    cases run
    exact wpAny_execs_nil (kk u _ r2.1 (e.trans e2.no) ⟨F.ex e2, trivial⟩)
theorem sok_whl {c : Expr} {b : List Stmt} {ec sb : N} (hc : BOk Z c ec) (hb : SsOk Z b sb) : SOk Z (.While c b [] pos) (.whl ec sb) := fun t σ F H I q ev =>
  wpAny_While (while_loop hc hb (fun u g I e r => ⟨u, rfl, e, I, r⟩) (k := FUEL) ⟨t, σ, H, I, .refl, F, ev⟩)
end
end

section

section
variable {Z : Zx} {pos : Pos}

theorem sok_asg (O : Zok Z) {x : Str} {i : Nat} {v : Expr} {ev : N} {p0 : Pos} (hx : localIx Z.cx x = some i) (hc : isComp v = false) (hv : EOk Z v ev) : SOk Z (.Assign [.Name x p0] v pos) (.asg i ev) := fun t σ F H I q e => by
  obtain ⟨p, h1, e⟩ := bnd_some (show bnd (evalE Z.T ev σ) (fun v => ret (Fl.next, σ.set i v)) H = some q from e)
  cases e
  exact wpAny_Assign_Name (Sat.then (hv t σ F H I p h1) fun u a e1 r1 => store_wp O hx r1.1 (F.ex e1) r1.2 fun z I2 e2 F2 => ⟨z, rfl, e1.no.trans e2, I2, F2, trivial⟩) (swap_no hc)

theorem asgC_at (O : Zok Z) {y : Str} {i : Nat} {py ps : Pos} (hy : localIx Z.cx y = some i) {elt : Expr} {gens : List Comprehension} {sc : Scope} {x : Str} {iter : Expr} {ifs : List Expr} {F : Expr → N} (hg : genOf gens = some (x, iter, ifs)) (hs : scopeOk sc x = true) (hn : notSet iter = true)
    (he : ∀ env', CxOk Z.X ⟨[x], sc.names, Z.cx.G⟩ env' → ∀ e, EB { Z with cx := ⟨[x], sc.names, Z.cx.G⟩, env := env' } e (F e))
    {t : St} {σ : List V} {H : Hp} {p : V × Hp} {ci : M V} (Fr : ZF Z t σ) (hi : Sim Z.X Z.A noX t (eval iter Z.env) ci (VRl Z.X)) (I : Inv Z.X t H) (e : compM Z.T (F elt) (testsN F ifs) ci H = some p) :
    Sat Z.X Z.A (atL Z) t (exec (.Assign [.Name y py] (.ListComp elt gens sc pos) ps) Z.env) fun u a => Inv Z.X u p.2 ∧ SR Z u (Fl.next, σ.set i p.1) a := by
  obtain ⟨b, hsw⟩ : ∃ b, swapsWith (.ListComp elt gens sc pos) (some (.Name y py)) ps.line Z.env = pure b := ⟨_, rfl⟩
  cases b with
  | false =>
    refine wpAny_Assign_Name ?_ hsw
    rw [arm_eval_ListComp]
    dsimp only
    rw [firstAsync_of hg]
    refine comp_core O hg hs hn he hi I e fun acc D u I' e1 r F1 nD => ?_
    obtain ⟨m, hm, _⟩ := F1.ns
    refine ⟨m, hm, fun h' hs' => ?_⟩
    obtain ⟨I2, e2⟩ := I'.turn (h' := h') u.s.toks F1.wL F1.off hs'.extBut (Nat.le_of_eq hs'.1.symm)
    have e12 : Ext noX t ⟨{ u.s with heap := h', toks := u.s.toks }, u.α, u.W⟩ := (e1.no.trans e2).to fun b q => .inr (q ▸ nD)
    exact store_wp O hy I2 (Fr.ex e12) (e2.vr (X := Z.X) r) fun z I3 e3 F3 => ⟨z, rfl, e12.no.trans e3, I3, F3, trivial⟩
  | true =>
    rw [exec_Assign_Name_used _ _ _ _ hsw, arm_evalThenUse_ListComp]
    refine wpAny_bind (wpAny_standAt (wpAny_bind ?_))
    dsimp only
    rw [firstAsync_of hg]
    refine wpAny_bind (wpAny_mono (comp_core (use := some (assign (.Name y py) Z.env)) (Q := fun z' s' => QQ (atL Z) t (fun u a => Inv Z.X u p.2 ∧ SR Z u (Fl.next, σ.set i p.1) a) .next s') O hg hs hn he hi I e fun acc D u1 I1 e1 r FD nD => ?_) (fun z' s' hq => wpAny_pure (wpAny_pure hq)) fun z' z' e => e)
    have hLD : Z.env.locals ≠ D := Nat.ne_of_lt (Nat.lt_of_lt_of_le (I.wlt _ Fr.wL) nD)
    show wpAny _ Z.A (assign (.Name y py) Z.env acc) _ _ _
    refine wpAny_assign_Name (store_wp O hy I1 (Fr.ex e1) r fun u2 I2 e2 F2 => ?_)
    have FD2 := FD.ext e2 (Ne.symm hLD)
    obtain ⟨m, hm, _⟩ := FD2.ns
    refine ⟨m, hm, fun h' hs' => ?_⟩
    obtain ⟨I3, e3⟩ := I2.turn (h' := h') u2.s.toks FD2.wL FD2.off hs'.extBut (Nat.le_of_eq hs'.1.symm)
    exact ⟨_, rfl, ((e1.no.trans (e2.to (F := fun b => b = Z.env.locals ∨ b = D) fun b q => .inl (.inl q))).trans (e3.to fun b q => .inl (.inr q))).to fun b q => q.imp_right fun (q : b = D) => by rw [q]; exact nD, I3, F2.ext e3 hLD, trivial⟩
theorem sok_asgC (O : Zok Z) {y : Str} {i : Nat} {py ps : Pos} (hy : localIx Z.cx y = some i) {elt : Expr} {gens : List Comprehension} {sc : Scope} {F : Cx → Expr → N} (hF : ∀ env' cx', CxOk Z.X cx' env' → ∀ e, EB { Z with cx := cx', env := env' } e (F cx' e)) :
    SOk Z (.Assign [.Name y py] (.ListComp elt gens sc pos) ps) (.asg i (cComp F Z.cx elt gens sc)) := fun t σ Fr H I q e => by
  obtain ⟨p, h1, e⟩ := bnd_some (show bnd (evalE Z.T (cComp F Z.cx elt gens sc) σ) (fun v => ret (Fl.next, σ.set i v)) H = some q from e)
  cases e
  unfold cComp at h1
  cases hg : genOf gens with
  | none => rw [hg] at h1; cases h1
  | some g =>
    rw [hg] at h1
    have h1 : evalE Z.T (gN (scopeOk sc g.1 && notSet g.2.1) (.comp (F ⟨[g.1], sc.names, Z.cx.G⟩ elt) (testsN (F ⟨[g.1], sc.names, Z.cx.G⟩) g.2.2) (F Z.cx g.2.1))) σ H = some p := h1
    cases hs : (scopeOk sc g.1 && notSet g.2.1) with
    | false => rw [hs] at h1; cases h1
    | true =>
      rw [hs] at h1
      rw [Bool.and_eq_true] at hs
      exact asgC_at (x := g.1) (iter := g.2.1) (ifs := g.2.2) O hy hg hs.1 hs.2 (fun env' C e => hF env' _ C e) Fr ((hF Z.env Z.cx O.C g.2.1).1 t σ Fr) I h1

def TR (Z : Zx) (t : St) (H : Hp) (σ : List V) (u : St) : Prop := Inv Z.X u H ∧ Ext (atL Z) t u ∧ ZF Z u σ
theorem names_wp (O : Zok Z) : ∀ {es : List Expr} {is : List Nat}, namesIx Z.cx es = some is → (assignEach es Z.env).length = es.length ∧ (assignEach es Z.env).findIdx? (·.1) = none ∧ is.length = es.length ∧
    ∀ {t : St} {σ : List V} {H : Hp} {vs : List V} {xs : List Value} {σ' : List V} {Q : Unit → Shared → Prop} {E : Value → Shared → Prop}, Inv Z.X t H → ZF Z t σ → VRL Z.X t vs xs → setMany is vs σ = some σ' → (∀ u, TR Z t H σ' u → Q () u.s) →
      wpAny (model Z.X.prog Z.X.w) Z.A (assignInOrder ((assignEach es Z.env).map (·.2)) xs) Q E t.s
  | [], is, h => by
    cases h
    refine ⟨rfl, rfl, rfl, fun {t σ H vs xs σ' Q E} I F r e k => ?_⟩
    cases vs with
    | nil => cases e; exact wpAny_pure (k t ⟨I, .refl, F⟩)
    | cons _ _ => cases e
  | pe :: es, is, h => by
    obtain ⟨i, hi, h⟩ := Option.bind_eq_some_iff.mp h
    obtain ⟨is', his, rfl⟩ := Option.map_eq_some_iff.mp h
    obtain ⟨x, hx, hi⟩ := Option.bind_eq_some_iff.mp hi
    obtain ⟨p, rfl⟩ := nameE_eq hx
    obtain ⟨k1, k2, k3, k4⟩ := names_wp O his
    refine ⟨congrArg (· + 1) k1, ?_, congrArg (· + 1) k3, fun {t σ H vs xs σ' Q E} I F r e k => ?_⟩
    · show ((false, assign (.Name x p) Z.env) :: assignEach es Z.env).findIdx? (·.1) = none
      rw [List.findIdx?_cons, k2]; rfl
    · cases vs with
      | nil => cases e
      | cons v vs =>
        cases xs with
        | nil => exact r.elim
        | cons y ys =>
          show wpAny _ _ (do holding ys (assign (.Name x p) Z.env y); assignInOrder ((assignEach es Z.env).map (·.2)) ys) _ _ t.s
          refine wpAny_bind (wpAny_holding (wpAny_assign_Name (store_wp O hi I F r.1 fun u I1 e1 F1 => ?_)))
          exact k4 I1 F1 (e1.vrs (X := Z.X) r.2) e fun w ⟨I2, e2, F2⟩ => k w ⟨I2, e1.trans e2, F2⟩

theorem setMany_len : ∀ {is : List Nat} {vs σ σ' : List V}, setMany is vs σ = some σ' → is.length = vs.length
  | [], [], _, _, _ => rfl
  | _ :: _, _ :: _, _, _, e => congrArg (· + 1) (setMany_len (show setMany _ _ _ = _ from e))
  | [], _ :: _, _, _, e => nomatch e
  | _ :: _, [], _, _, e => nomatch e

theorem tup_wp (O : Zok Z) {es : List Expr} {is : List Nat} {k : Nat} {p : Pos} (h : namesIx Z.cx es = some is) {t : St} {σ : List V} {H : Hp} {v : V} {y : Value} {σ' : List V} {Q : Unit → Shared → Prop} {E : Value → Shared → Prop}
    (I : Inv Z.X t H) (F : ZF Z t σ) (r : VRl Z.X t v y) (e : bindT (.inl is) v σ = some σ') (g : ∀ u, TR Z t H σ' u → Q () u.s) : wpAny (model Z.X.prog Z.X.w) Z.A (assign (.Tuple es k p) Z.env y) Q E t.s := by
  obtain ⟨k1, k2, k3, k4⟩ := names_wp O h
  obtain ⟨vs, hv, e⟩ := Option.bind_eq_some_iff.mp e
  obtain ⟨hz, a, xs, rfl, hw, ht, hv⟩ := tup_of r hv
  rw [arm_assign_Tuple]
  refine wpAny_bind (wpAny_standAt ?_)
  unfold unpack
  rw [k1, k2]
  have hsz : es.length = xs.toArray.size := by rw [List.size_toArray, ← hv.length, ← setMany_len e, k3]
  rw [hsz]
  refine wpAny_bind (wpAny_holding (wpAny_sz (wpAny_unpackItems_tuple O.R.handled ht fun h' he hs => ?_)))
  obtain ⟨I1, e1⟩ := I.kept (h' := h') t.s.toks (fun b o g => he b o (Nat.ne_of_lt (Heap.lt_size g)) g) hs
  exact k4 I1 (F.ex e1) (e1.vrs (X := Z.X) hv) e fun u ⟨I2, e2, F2⟩ => g u ⟨I2, e1.no.trans e2, F2⟩

theorem tg_wp (O : Zok Z) {t : Expr} {tg : List Nat ⊕ Nat} (h : cTg Z.cx t = some tg) {s : St} {σ : List V} {H : Hp} {v : V} {y : Value} {σ' : List V} {Q : Unit → Shared → Prop} {E : Value → Shared → Prop}
    (I : Inv Z.X s H) (F : ZF Z s σ) (r : VRl Z.X s v y) (e : bindT tg v σ = some σ') (g : ∀ u, TR Z s H σ' u → Q () u.s) : wpAny (model Z.X.prog Z.X.w) Z.A (assign t Z.env y) Q E s.s := by
  unfold cTg at h
  cases hn : nameE t with
  | some x =>
    rw [hn] at h
    obtain ⟨i, hi, rfl⟩ := Option.map_eq_some_iff.mp h
    obtain ⟨p, rfl⟩ := nameE_eq hn
    cases e
    exact wpAny_assign_Name (store_wp O hi I F r fun u I1 e1 F1 => g u ⟨I1, e1, F1⟩)
  | none =>
    rw [hn] at h
    obtain ⟨is, hi, rfl⟩ := Option.map_eq_some_iff.mp h
    obtain ⟨es, he, hi⟩ := Option.bind_eq_some_iff.mp hi
    obtain ⟨k, p, rfl⟩ := tupE_eq he
    exact tup_wp O hi I F r e g

theorem sok_asgM (O : Zok Z) {es : List Expr} {is : List Nat} {k : Nat} {v : Expr} {ev : N} {p0 : Pos} (hx : namesIx Z.cx es = some is) (hc : noSwap v = true) (hv : EOk Z v ev) : SOk Z (.Assign [.Tuple es k p0] v pos) (.asgM is ev) := fun t σ F H I q e => by
  obtain ⟨p, h1, e⟩ := bnd_some (show bnd (evalE Z.T ev σ) (fun v => oB (bindT (.inl is) v σ) fun σ1 => ret (Fl.next, σ1)) H = some q from e)
  obtain ⟨σ1, h2, e⟩ := oB_some e
  cases e
  refine wpAny_Assign_stores (Sat.then (hv t σ F H I p h1) fun u a e1 r1 => ?_) (by cases v <;> first | rfl | cases hc) (by cases v <;> first | rfl | cases hc)
  show wpAny _ _ (assign (.Tuple es k p0) Z.env a) _ _ u.s
  exact tup_wp O hx r1.1 (F.ex e1) r1.2 h2 fun w ⟨I2, e2, F2⟩ => ⟨w, rfl, e1.no.trans e2, I2, F2, trivial⟩

inductive FInv (Z : Zx) (t0 : St) (tg : List Nat ⊕ Nat) (o : V) (J : Addr) (b : List V → Ms) (q : (Fl × List V) × Hp) (k : Nat) : Shared → Prop
  | mk (t : St) (σ : List V) (H : Hp) (m : Nat) (I : Inv Z.X t H) (e : Ext (fun b => b = J ∨ b = Z.env.locals) t0 t) (F : ZF Z t σ) (it : ItAt Z.X t J o m) (run : forN tg o b k m σ H = some q) : FInv Z t0 tg o J b q k t.s

theorem forN_get {t : List Nat ⊕ Nat} {b : List V → Ms} {o : V} {k n : Nat} {σ : List V} {H : Hp} {q : (Fl × List V) × Hp} {G : Prop} (e : forN t o b k n σ H = some q) (g : ∀ j, k = j + 1 → ∀ r, itemAt o n H = some r → (match r with
    | none => ret (Fl.next, σ)
    | some v => oB (bindT t v σ) fun σ1 => bnd (b σ1) fun r => turned r (forN t o b j (n + 1))) H = some q → G) : G := by
  cases k with
  | zero => cases e
  | succ j => exact hB_get e fun b hb e => g j rfl b hb e
theorem for_loop (O : Zok Z) {t : Expr} {tg : List Nat ⊕ Nat} {b : List Stmt} {sb : N} (ht : cTg Z.cx t = some tg) (hb : SsOk Z b sb) {t0 : St} {J : Addr} {o : V} {q : (Fl × List V) × Hp} {R : Result → Shared → Prop} (hLJ : Z.env.locals ≠ J) (kk : LoopK Z (fun b => b = J ∨ b = Z.env.locals) t0 q R) {k : Nat} {s : Shared} (w : FInv Z t0 tg o J (execSs Z.T sb) q k s) :
    codeAny (model Z.X.prog Z.X.w) Z.A (.forLoop t (.ref J) b [] Z.env) R s := by
  refine codeAny_forLoop_any (FInv Z t0 tg o J (execSs Z.T sb) q) ?_ k w
  intro k s w
  induction w with
  | mk t3 σ3 H3 m I3 e3 F3 it3 run => ?_
  refine forN_get run fun j hk ov hit run => next_split O.R.handled I3 it3 hit (fun ho t4 I4 e4 => ?_) fun v ho t4 y I4 e4 ry it4 => ?_
  · rw [ho] at run
    cases run
    exact wpAny_execs_nil (kk t4 _ I4 (e3.trans (e4.to fun b q => .inl (.inl q))) ⟨F3.ext e4 hLJ, trivial⟩)
  · rw [ho] at run
    refine oB_get (o := bindT tg v σ3) (d := fun σ1 => bnd (execSs Z.T sb σ1) fun r => turned r (forN tg o (execSs Z.T sb) j (m + 1))) run fun σ4 hbd run => letGo_snd it4 (tg_wp O ht I4 (F3.ext e4 hLJ) ry hbd fun t5 tr => ?_)
    refine bnd_get run fun r H6 h6 run => Sat.then (hb t5 σ4 tr.2.2 H3 tr.1 _ h6) fun t6 g e6 r6 => ?_
    have all := (e3.trans (e4.to fun b q => .inl (.inl q))).trans ((tr.2.1.trans e6).to fun b q => .inl (.inr q))
    exact turned_sim r6.1 all r6.2 run kk fun F6 run => ⟨j, hk ▸ Nat.lt_succ_self _, t6, r.2, H6, m + 1, r6.1, all, F6, it4.ext (tr.2.1.trans e6) (Ne.symm hLJ), run⟩

theorem sok_for (O : Zok Z) {t it : Expr} {tg : List Nat ⊕ Nat} {b : List Stmt} {eit sb : N} (ht : cTg Z.cx t = some tg) (hn : notSet it = true) (hi : EOk Z it eit) (hb : SsOk Z b sb) : SOk Z (.For t it b [] pos) (.for tg eit sb) := fun t0 σ F H I q ev =>
  bnd_get (c := evalE Z.T eit σ) (d := fun o => forN tg o (execSs Z.T sb) FUEL 0 σ) ev fun o H1 h1 run => wpAny_For (Sat.then (hi t0 σ F H I _ h1) fun t1 x1 e1 r1 => by
    refine Sat.then (it_start r1.1 r1.2 (hB_get (f := itemAt o 0) run fun b h z' => by rw [h]; rfl)) fun t2 itv e2 r2 => ?_
    obtain ⟨J, rfl, nJ, it2⟩ := r2.2
    exact for_loop O ht hb (Nat.ne_of_lt (Nat.lt_of_lt_of_le (I.wlt _ F.wL) (Nat.le_trans e1.size nJ))) (fun u g I e r => ⟨u, rfl, e.to fun b q => q.elim (fun q => .inr (q ▸ Nat.le_trans e1.size nJ)) .inl, I, r⟩) (k := FUEL) ⟨t2, σ, H1, 0, r2.1, (e1.trans e2).no, (F.ex e1).ex e2, it2, run⟩) (folded_id hn)
end

theorem cS_ok {Z : Zx} (O : Zok Z) : ∀ (d : Nat) (ps : Stmt), SOk Z ps (cS d Z.cx ps)
  | 0, ps => sok_bad
  | d + 1, ps => by
    have ih : ∀ ps : List Stmt, SsOk Z ps (toN (ps.map (cS d Z.cx))) := fun ps => ssok ps fun p z' => cS_ok O d p
    have eb : ∀ pe, EB Z pe (cE d Z.cx pe) := cE_ok d Z O
    cases ps with
    | Expr e p => exact sok_gN fun h => sok_expr O h (eb e).1
    | Assign ts v p =>
      refine sok_oN fun t ht => ?_
      rw [oneL_eq ht]
      cases t with
      | Name x p0 =>
        refine sok_oN fun i hi => ?_
        unfold asgG
        cases hl : lcP v with
        | none => exact sok_gN fun h => sok_asg O hi (not_t h) (eb v).1
        | some q =>
          obtain ⟨⟨elt, gens, sc, p1⟩, rfl⟩ := q
          cases d with
          | zero => exact fun t σ F => simNone fun z' => rfl
          | succ d => exact sok_asgC O hi fun env' cx' C' => cE_ok d { Z with cx := cx', env := env' } ⟨O.B, O.R, O.TS, C'⟩
      | Tuple es k p0 => exact sok_oN fun is hi => sok_gN fun h => sok_asgM O hi h (eb v).1
      | Attribute o name p0 => exact sok_oN fun f hf => sok_gN fun h => sok_setA O hf h (eb o).1 (eb v).1
      | Subscript o i p0 =>
        refine sok_gN fun h => ?_
        rw [Bool.and_eq_true] at h
        exact sok_setI (not_t h.1) (eb o).1 (eb i).1 (eb v).1
      | _ => exact sok_bad
    | AugAssign t op v p =>
      cases t with
      | Name x p0 => exact sok_oN fun i hi => sok_aug O hi (eb v).1
      | Attribute o name p0 => exact sok_oN fun f hf => sok_augA O hf (eb o).1 (eb v).1
      | Subscript o i p0 => exact sok_gN fun h => sok_augI h (eb o).1 (eb i).1 (eb v).1
      | _ => exact sok_bad
    | If c a b p => exact sok_sif (eb c).2 (ih a) (ih b)
    | While c b o p =>
      refine sok_gN fun h => ?_
      rw [List.isEmpty_iff.mp h]
      exact sok_whl (eb c).2 (ih b)
    | For t it b o p =>
      refine sok_gN fun h => sok_oN fun tg ht => ?_
      rw [Bool.and_eq_true] at h
      rw [List.isEmpty_iff.mp h.1]
      exact sok_for O ht h.2 (eb it).1 (ih b)
    | Return e p => exact sok_rtn fun e z' => (eb e).1
    | Break p => exact fun t σ F H I q e => by cases e; exact wpAny_Break (Sat.here ⟨I, F, trivial⟩)
    | Pass p => exact fun t σ F H I q e => by cases e; exact wpAny_Pass (Sat.here ⟨I, F, trivial⟩)
    | _ => exact sok_bad
end

section

theorem bind_shape (fd : FuncData) (as : List Arg) (kd : List (Option Expr)) (df : List Expr) (vals : List Value) : ∃ (e1 : Sem (List (Str × Value))) (e2 : List Value → Sem (List (Str × Value))) (f : Str × Value → List (Str × Value) → Sem (ForInStep (List (Str × Value)))), 
   bindArgs { fd with params := ⟨[], as, none, [], kd, none, df⟩, defaults := .none } ⟨vals, []⟩ = (fun (ps : List Str) (D : List Value) => 
     if (decide (vals.length > ps.length) && true) = true then e1 else 
     if (!((ps.take (ps.length - D.length)).filter fun n => ((ps.zip vals).lookup n).isNone).isEmpty) = true then e2 D else 
     (forIn ((ps.drop (ps.length - D.length)).zip D) (ps.zip vals) f >>= fun s => pure ((ps ++ []).filterMap fun n => (s.lookup n).map (n, ·)))) (as.map Arg.arg) (([] : List Value).drop (0 - (as.map Arg.arg).length)) := 
  ⟨_, fun D => _, _, rfl⟩
theorem lookup_zip : ∀ {ps : List Str} {vals : List Value}, vals.length = ps.length → ∀ x ∈ ps, ((ps.zip vals).lookup x).isSome = true
  | [], _, _, x, h => nomatch h
  | p :: ps, [], h, _, _ => nomatch h
  | p :: ps, v :: vs, h, x, hx => by
    rw [List.zip_cons_cons, List.lookup_cons]
    by_cases hp : x = p
    · subst hp; rw [beq_self_eq_true]; rfl
    · rw [beq_eq_false_iff_ne.mpr hp]
      exact lookup_zip (Nat.succ.inj h) x ((List.mem_cons.mp hx).resolve_left hp)
theorem fm_congr {α β : Type} {f g : α → Option β} : ∀ {l : List α}, (∀ x ∈ l, f x = g x) → l.filterMap f = l.filterMap g
  | [], _ => rfl
  | x :: l, h => by rw [List.filterMap_cons, List.filterMap_cons, h x List.mem_cons_self, fm_congr fun y hy => h y (List.mem_cons_of_mem _ hy)]
theorem filterMap_zip : ∀ {ps : List Str} {vals : List Value}, vals.length = ps.length → ps.Nodup → ps.filterMap (fun n => ((ps.zip vals).lookup n).map (n, ·)) = ps.zip vals
  | [], _, _, _ => rfl
  | p :: ps, [], h, _ => nomatch h
  | p :: ps, v :: vs, h, hn => by
    rw [List.nodup_cons] at hn
    have ih := filterMap_zip (ps := ps) (vals := vs) (Nat.succ.inj h) hn.2
    rw [List.zip_cons_cons, List.filterMap_cons, List.lookup_cons, beq_self_eq_true]
    refine congrArg ((p, v) :: ·) ((fm_congr fun x hx => ?_).trans ih)
    have : (x == p) = false := beq_eq_false_iff_ne.mpr fun q => hn.1 (by rw [← q]; exact hx)
    rw [List.lookup_cons, this]

noncomputable def psOf (fd : FuncData) : List Str := fd.params.args.map Arg.arg
theorem par_of {p : Arguments} (h1 : p.posonlyargs = []) (h2 : p.kwonlyargs = []) (h3 : p.vararg = none) (h4 : p.kwarg = none) : p = ⟨[], p.args, none, [], p.kw_defaults, none, p.defaults⟩ := by
  cases p; cases h1; cases h2; cases h3; cases h4; rfl
theorem fd_eta {fd : FuncData} {P : Arguments} {D : Value} (hp : fd.params = P) (hd : fd.defaults = D) : fd = { fd with params := P, defaults := D } := by
  subst hp hd; rfl
theorem bind_plain {fd : FuncData} {vals : List Value} (h1 : fd.params.posonlyargs = []) (h3 : fd.params.kwonlyargs = []) (h4 : fd.params.vararg = none) (h5 : fd.params.kwarg = none) (hd : fd.defaults = .none) (nd : (psOf fd).Nodup) (hl : vals.length = (psOf fd).length) :
    bindArgs fd ⟨vals, []⟩ = pure ((psOf fd).zip vals) := by
  obtain ⟨e1, e2, f, h⟩ := bind_shape fd fd.params.args fd.params.kw_defaults fd.params.defaults vals
  rw [List.drop_nil] at h
  refine (congrArg (bindArgs · ⟨vals, []⟩) (fd_eta (par_of h1 h3 h4 h5) hd)).trans (h.trans ((if_neg ?_).trans ((if_neg ?_).trans ?_)))
  · rw [Bool.and_true, decide_eq_true_eq]; exact Nat.not_lt.mpr (Nat.le_of_eq hl)
  · have : ((psOf fd).take (psOf fd).length).filter (fun n => (((psOf fd).zip vals).lookup n).isNone) = [] := by
      rw [List.take_length, List.filter_eq_nil_iff]
      intro x hx
      rw [Option.isNone_iff_eq_none]
      intro q
      have := lookup_zip hl x hx
      rw [q] at this; cases this
    intro z
    have z : (!(((psOf fd).take (psOf fd).length).filter (fun n => (((psOf fd).zip vals).lookup n).isNone)).isEmpty) = true := z
    rw [this] at z; cases z
  · rw [List.zip_nil_right]
    have e : (((psOf fd) ++ []).filterMap fun n => (((psOf fd).zip vals).lookup n).map (n, ·)) = (psOf fd).zip vals := by rw [List.append_nil, filterMap_zip hl nd]
    exact congrArg (pure (f := Sem)) e

theorem lookup_mem : ∀ {l : List (Str × Value)} {k : Str} {v : Value}, (l.map (·.1)).Nodup → (k, v) ∈ l → l.lookup k = some v
  | [], _, _, _, h => nomatch h
  | (a, b) :: l, k, v, hn, h => by
    rw [List.map_cons, List.nodup_cons] at hn
    rw [List.lookup_cons]
    rcases List.mem_cons.mp h with h | h
    · cases h; rw [beq_self_eq_true]
    · rw [beq_eq_false_iff_ne.mpr fun q => hn.1 (by rw [← q]; exact List.mem_map.mpr ⟨(k, v), h, rfl⟩)]
      exact lookup_mem hn.2 h
theorem binds_get {ps : List Str} {vals : List Value} (nd : ps.Nodup) (hl : vals.length = ps.length) {i : Nat} {x : Str} {y : Value} (h1 : ps[i]? = some x) (h2 : vals[i]? = some y) : (ps.zip vals).reverse.lookup x = some y := by
  apply lookup_mem
  · rw [List.map_reverse, List.map_fst_zip (Nat.le_of_eq hl.symm)]
    exact List.pairwise_reverse.mpr (nd.imp fun h => Ne.symm h)
  · rw [List.mem_reverse]
    exact List.mem_of_getElem? (i := i) (List.getElem?_zip_eq_some.mpr ⟨h1, h2⟩)

noncomputable def lsOf (fd : FuncData) : List Str := psOf fd ++ (fd.scope.names.filter fun y => decide (y.2 = .local) && !((psOf fd).contains y.1)).map (·.1)
noncomputable def codeIn (K : Frag) (q : Str) : Value → Bool
  | .ref c => match K.lookup c with
    | some ⟨_, _, .fields vs, _⟩ => (match (vs : Array Value)[1]? with
      | some (Value.str x _) => x == q
      | _ => false)
    | _ => false
  | _ => false
noncomputable def isNoneV : Value → Bool
  | .none => true
  | _ => false
structure FdOk (K : Frag) (fd : FuncData) : Prop where
  po : fd.params.posonlyargs = []
  ko : fd.params.kwonlyargs = []
  va : fd.params.vararg = none
  kw : fd.params.kwarg = none
  nd : (psOf fd).Nodup
  ndl : (lsOf fd).Nodup
  kind : fd.scope.kind = .function
  nocell : ∀ y ∈ fd.scope.names, y.2 ≠ .cell
  loc : ∀ x ∈ psOf fd, fd.scope.names.lookup x = some .local
  nc : fd.scope.isCoroutine = false
  ng : fd.scope.isGenerator = false
  gl : fd.globals = mainGlobals
  bi : fd.builtins = builtinsNs
  code : codeIn K fd.qualname fd.code = true
noncomputable def fnOk (K : Frag) (fd : FuncData) : Bool :=
  fd.params.posonlyargs.isEmpty && (fd.params.kwonlyargs.isEmpty && (fd.params.vararg.isNone && (fd.params.kwarg.isNone && (decide (psOf fd).Nodup && (decide (lsOf fd).Nodup && (decide (fd.scope.kind = .function) &&
    (fd.scope.names.all (fun y => decide (y.2 ≠ .cell)) && ((psOf fd).all (fun x => decide (fd.scope.names.lookup x = some .local)) && (!fd.scope.isCoroutine && (!fd.scope.isGenerator && (decide (fd.globals = mainGlobals) && (decide (fd.builtins = builtinsNs) &&
    codeIn K fd.qualname fd.code))))))))))))
theorem fnOk_of {K : Frag} {fd : FuncData} (h : fnOk K fd = true) : FdOk K fd := by
  unfold fnOk at h
  simp only [Bool.and_eq_true, decide_eq_true_eq, List.isEmpty_iff, Option.isNone_iff_eq_none, Bool.not_eq_true', List.all_eq_true] at h
  exact ⟨h.1, h.2.1, h.2.2.1, h.2.2.2.1, h.2.2.2.2.1, h.2.2.2.2.2.1, h.2.2.2.2.2.2.1, h.2.2.2.2.2.2.2.1, h.2.2.2.2.2.2.2.2.1, h.2.2.2.2.2.2.2.2.2.1, h.2.2.2.2.2.2.2.2.2.2.1, h.2.2.2.2.2.2.2.2.2.2.2.1, h.2.2.2.2.2.2.2.2.2.2.2.2.1, h.2.2.2.2.2.2.2.2.2.2.2.2.2⟩
noncomputable def stmtsO : FuncBody → Option (List Stmt)
  | .stmts b => some b
  | _ => none
noncomputable def funcO : Data → Option FuncData
  | .func fd => some fd
  | _ => none
noncomputable def fdOf (K : Frag) (f : Nat) : Option FuncData := (K.lookup f).bind fun o => funcO o.data
noncomputable def compile (G : List (Str × Gv)) (fd : FuncData) (b : List Stmt) : N := toN (b.map (cS 30 ⟨lsOf fd, fd.scope.names, G⟩))
noncomputable def guardO (b : Bool) : Option Unit := match b with
  | true => some ()
  | false => none
noncomputable def fnAst (K : Frag) (G : List (Str × Gv)) (f : Nat) : Option (Nat × Nat × N) :=
  (fdOf K f).bind fun fd => (guardO (fnOk K fd && isNoneV fd.defaults)).bind fun z' => (stmtsO fd.body).map fun b => ((lsOf fd).length, (psOf fd).length, compile G fd b)

theorem guardO_some {b : Bool} {u : Unit} (h : guardO b = some u) : b = true := by cases b <;> cases h; rfl
theorem stmtsO_eq {b : FuncBody} {l : List Stmt} (h : stmtsO b = some l) : b = .stmts l := by cases b <;> cases h; rfl
theorem isNoneV_eq {v : Value} (h : isNoneV v = true) : v = .none := by cases v <;> first | rfl | cases h
theorem fdOf_some {K : Frag} {f : Nat} {fd : FuncData} (h : fdOf K f = some fd) : keepIn K (.ref f) = true ∧ ∃ o, K.lookup f = some o ∧ o.data = .func fd := by
  obtain ⟨o, ho, h⟩ := Option.bind_eq_some_iff.mp h
  have hd : o.data = .func fd := by
    revert h; cases o.data <;> intro h <;> cases h; rfl
  refine ⟨?_, o, ho, hd⟩
  obtain ⟨a, b, c, d⟩ := o
  cases hd
  simp only [keepIn, ho]

theorem codeIn_rec {K : Frag} {q : Str} {cd : Value} {h : Heap} (X : K.In h) (e : codeIn K q cd = true) : h.CodeRec cd q := by
  unfold codeIn at e
  split at e
  · split at e
    · rename_i e1
      split at e
      · rename_i e2
        have := eq_of_beq e
        subst this
        exact ⟨_, _, _, _, rfl, X _ _ e1, rfl, e2⟩
      · cases e
    · cases e
  · cases e

section
variable {X : Cf} {n : Nat} {G : List (Str × Gv)} {T : Tab} {A : Around} {t : St} {H : Hp} {vs : List V} {xs : List Value}

theorem frame_new {fd : FuncData} {ps : List Str} {L : Addr} {h₁ : Heap} {tk : Nat} (hps : psOf fd = ps) (nd : ps.Nodup) (I : Inv X t H) (rl : vs.length = xs.length) (r : ∀ (i : Nat) (v : V), vs[i]? = some v → v = .undef ∨ ∃ y, xs[i]? = some y ∧ VRl X t v y) (hL : L = t.s.heap.objs.size) (hlen : xs.length = ps.length) (hns : h₁.Ns L (fun x => (ps.zip xs).reverse.lookup x)) (hk : ∀ b o, t.s.heap.get? b = some o → h₁.get? b = some o) :
    ∃ u : St, u.s = { t.s with heap := h₁, toks := tk } ∧ Inv X u H ∧ Ext noX t u ∧ Frm X u L (lsOf fd) (vs ++ List.replicate ((lsOf fd).length - ps.length) .undef) := by
  obtain ⟨I1, e1⟩ := I.watch (h' := h₁) (L := L) tk hk (by rw [hL]; exact Nat.le_refl _) hns.lt
  refine ⟨_, rfl, I1, e1, ⟨_, hns, fun i x v h1 h2 => ?_⟩, .inr rfl, fun z => Nat.lt_irrefl _ (hL ▸ I.wlt _ (I.footW z))⟩
  by_cases hi : i < vs.length
  · rw [List.getElem?_append_left hi] at h2
    refine (r i v h2).imp_right fun ⟨y, hy, ry⟩ => ⟨y, ?_, e1.vr (X := X) ry⟩
    unfold lsOf at h1
    rw [hps, List.getElem?_append_left (by rw [← hlen, ← rl]; exact hi)] at h1
    exact binds_get nd hlen h1 hy
  · rw [List.getElem?_append_right (Nat.le_of_not_lt hi)] at h2
    exact .inl (List.mem_replicate.mp (List.mem_of_getElem? h2)).2

theorem Room.low {A : Around} {n : Nat} (R : Room A n) : A.depth < recursionLimit := by have := R.depth; show A.depth < 1000; omega
theorem Room.deep {A : Around} {n : Nat} {env : Env} (R : Room A (n + 1)) : Room (A.deeper env) n :=
  ⟨R.handled, by have := R.depth; show A.depth + 1 + 3 * n ≤ 900; omega, by have := R.units; show A.units + 3 + 30 * n ≤ 8000; omega⟩

theorem outOf_sim {X : Cf} {u : St} {r : Fl × List V} {H : Hp} {p : V × Hp} {g : Flow} (e : outOf r H = some p) (hf : flR X u r.1 g) : p.2 = H ∧ VRl X u p.1 (match (generalizing := false) g with
    | .ret v => v
    | _ => .none) := by
  obtain ⟨f, σ⟩ := r
  rcases flR_cases hf with ⟨h, rfl⟩ | ⟨h, rfl⟩ | ⟨v, x, h, rfl, rv⟩ <;> cases h <;> cases e
  · exact ⟨rfl, rfl⟩
  · exact ⟨rfl, rv⟩

theorem fun_ok (B : Base X) (HG : ∀ x g, G.lookup x = some g → GOk X x g) (TS : ∀ f, FnOk X n f (T f)) {f npar slots : Nat} {body : N} (ha : fnAst X.K G f = some (slots, npar, body)) : FnOk X (n + 1) f (runF T slots npar body) := by
  obtain ⟨fd, hfd, ha⟩ := Option.bind_eq_some_iff.mp ha
  obtain ⟨_, hok, ha⟩ := Option.bind_eq_some_iff.mp ha
  obtain ⟨b, hb, ha⟩ := Option.map_eq_some_iff.mp ha
  cases ha
  have hok := guardO_some hok
  rw [Bool.and_eq_true] at hok
  have c := fnOk_of hok.1
  obtain ⟨hkeep, o, ho, hd⟩ := fdOf_some hfd
  refine .inr ⟨hkeep, fun A t vs xs R r H I p e => ?_⟩
  obtain ⟨hlen, e⟩ := gd_some e
  refine bnd_get e fun fl H1 h1 e => ?_
  have hl2 : xs.length = (psOf fd).length := r.length.symm.trans hlen
  refine wpAny_call (codeAny_call_plain (R.low) (B.kin.keeps I.keep _ _ ho) hd (B.lim.keeps I.keep) (codeIn_rec (B.kin.keeps I.keep) c.code) (stmtsO_eq hb)
    (bind_plain c.po c.ko c.va c.kw (isNoneV_eq hok.2) c.nd hl2) c.nocell (fun x hx => c.loc x.1 (List.of_mem_zip hx).1) (fun h₁ hns hk => ?_) c.nc c.ng c.kind)
  obtain ⟨u, hu, I1, e1, F1⟩ := frame_new (fd := fd) (tk := _) rfl c.nd I r.length (fun i v h => .inr (r.get h)) rfl hl2 hns hk
  rw [← hu]
  refine Sat.then (ssok (Z := ⟨X, _, T, n, _, _⟩) b (fun p z' => cS_ok (Z := ⟨X, _, T, n, ⟨lsOf fd, fd.scope.names, G⟩, callEnv fd t.s.heap.objs.size f⟩) ⟨B, R.deep, TS, ⟨c.kind, rfl, c.gl, c.bi, c.ndl, HG⟩⟩ 30 p) u _ F1 H I1 _ h1) fun v fw e2 r2 => ?_
  have q := outOf_sim e r2.2.2
  exact ⟨v, rfl, (e1.no.trans e2).to fun b q => .inr (by rw [show b = t.s.heap.objs.size from q]; exact Nat.le_refl _), by rw [q.1]; exact r2.1, q.2⟩
end
end

section

noncomputable def asgP : (s : Stmt) → Option {q : List Expr × Expr × Pos // s = .Assign q.1 q.2.1 q.2.2}
  | .Assign ts v p => some ⟨(ts, v, p), rfl⟩
  | _ => none
noncomputable def setO (self : Str) (s : Stmt) : Option (Str × Expr) :=
  (asgP s).bind fun q => (oneL q.1.1).bind fun t => (attrE t).bind fun p => (nameE p.1).bind fun x => (guardO (x == self && !(isComp q.1.2.1))).map fun z' => (p.2.1, q.1.2.1)
noncomputable def initOf (cx : Cx) (self : Str) : List Stmt → Option (List (Nat × N))
  | [] => some []
  | st :: r => (setO self st).bind fun p => (attrNames.idxOf? p.1).bind fun f => (initOf cx self r).map fun l => (f, cE 30 cx p.2) :: l
noncomputable def initFn (K : Frag) (C : Nat) : Option Nat := match findIn K (.ref C) "__init__" with
  | some (some (.ref f)) => some f
  | _ => none
noncomputable def selfOf (fd : FuncData) : Str := (psOf fd).headD ("" : Str)
noncomputable def seqP : (d : Data) → Option {q : Array Value × Nat // d = .seq q.1 q.2}
  | .seq vs n => some ⟨(vs, n), rfl⟩
  | _ => none
noncomputable def refV : Value → Option Addr
  | .ref a => some a
  | _ => none
noncomputable def strVP : (v : Value) → Option {q : Str × Tok // v = .str q.1 q.2}
  | .str x k => some ⟨(x, k), rfl⟩
  | _ => none
theorem refV_eq {v : Value} {a : Addr} (h : refV v = some a) : v = .ref a := by cases v <;> cases h; rfl
noncomputable def dfltOk (K : Frag) (fd : FuncData) : Bool → Bool
  | false => isNoneV fd.defaults
  | true => ((refV fd.defaults).bind fun a => (K.lookup a).bind fun o => (seqP o.data).bind fun q => (oneL q.1.1.toList).bind fun v => (strVP v).bind fun z =>
      guardO (decide (psOf fd = [("self" : Str), ("file" : Str)]) && decide (z.1.1 = toStr []))).isSome
noncomputable def dsOf : Bool → List V
  | false => []
  | true => [.str []]
noncomputable def ctorOk (K : Frag) (C fI : Nat) (fd : FuncData) (b : Bool) : Bool :=
  fnOk K fd && (dfltOk K fd b && (makesIn K C && (isFn K (.ref fI) && (keepIn K (.ref C) && (decide (fnames C).Nodup && (!((psOf fd).isEmpty) && !(isDbg (selfOf fd))))))))
noncomputable def ctorAst (K : Frag) (G : List (Str × Gv)) (C : Nat) (dflt : Bool) : Option (Nat × Nat × N) :=
  (initFn K C).bind fun fI => (fdOf K fI).bind fun fd => (stmtsO fd.body).bind fun b => (guardO (ctorOk K C fI fd dflt)).bind fun z' =>
    (initOf ⟨lsOf fd, fd.scope.names, G⟩ (selfOf fd) b).bind fun l => (guardO (decide (l.map (·.1) = fieldsOf C))).map fun z' => ((lsOf fd).length, (psOf fd).length, toN (l.map (·.2)))

noncomputable def mkV (rec : Bool) (C : Nat) (vs : List V) : M V := match rec with
  | true => ret (.obj C vs)
  | false => fun H => some (.ref H.length, H ++ [.inst C vs])
noncomputable def ctorF (T : Tab) (rec dflt : Bool) (C slots npar : Nat) (inits : N) : Fn := fun args =>
  gd ((.undef :: (args ++ dsOf dflt)).length = npar) (bnd (evalEs T inits ((.undef :: (args ++ dsOf dflt)) ++ List.replicate (slots - npar) .undef)) (mkV rec C))

theorem setO_eq {self name : Str} {v : Expr} {st : Stmt} (h : setO self st = some (name, v)) : ∃ pa pb pc, st = .Assign [.Attribute (.Name self pa) name pb] v pc ∧ isComp v = false := by
  obtain ⟨q, _, h⟩ := Option.bind_eq_some_iff.mp h
  obtain ⟨t, ht, h⟩ := Option.bind_eq_some_iff.mp h
  obtain ⟨p, hp, h⟩ := Option.bind_eq_some_iff.mp h
  obtain ⟨x, hx, h⟩ := Option.bind_eq_some_iff.mp h
  obtain ⟨_, hg, h⟩ := Option.map_eq_some_iff.mp h
  obtain ⟨pa, hpa⟩ := nameE_eq hx
  have hg := guardO_some hg
  rw [Bool.and_eq_true] at hg
  have k := Prod.mk.inj h
  exact ⟨pa, p.2.2, q.1.2.2, by rw [← k.1, ← k.2, ← eq_of_beq hg.1, ← hpa, ← attrE_eq hp, ← oneL_eq ht]; exact q.2, by rw [← k.2]; exact not_t hg.2⟩

theorem Inv.unwatch {X : Cf} {t : St} {H : Hp} {W' : Addr → Prop} (I : Inv X t H) (h : ∀ b, W' b → t.W b) (hf : ∀ p ∈ t.α, W' p.1 ∧ W' p.2) : Inv X ⟨t.s, t.α, W'⟩ H :=
  have m : Mv t ⟨t.s, t.α, W'⟩ := ⟨fun z' z' e z' => e, fun b z' z' z => h b z, fun z' z' h => h⟩
  ⟨I.keep, fun b o e z => I.low b o e (h b z), I.len, fun i y e => let ⟨q, hq, r⟩ := I.objs i y e; ⟨q, hq, r.mv m (fun z' e => e) (fun z' e => e)⟩, hf, I.apart, fun b z => I.wlt b (h b z)⟩

structure IR (X : Cf) (t0 t : St) (C x dx L : Addr) (sn : Str) (ls : List Str) (σ : List V) (ks : List Nat) (vs : List V) : Prop where
  e : Ext (· = dx) t0 t
  F : Frm X t L ls σ
  slf : ∃ m, t.s.heap.Ns L m ∧ m sn = some (.ref x)
  gx : t.s.heap.get? x = some (instObj C dx)
  gd : ∃ ds ep, t.s.heap.get? dx = some (dictOf ds ep) ∧ KeysR X.w.params (ks.map attrName) ds ∧ VRL X t vs (ds.map (·.val))
  wx : t.W x
  wd : t.W dx
  fx : ¬ Foot t.α x
  fd : ¬ Foot t.α dx
  ne : x ≠ dx ∧ L ≠ dx

theorem Ns.ext {t u : St} {E : Addr → Prop} {L : Addr} {m : Str → Option Value} (h : t.s.heap.Ns L m) (e : Ext E t u) (hf : ¬ Foot t.α L) (hE : ¬ E L) : u.s.heap.Ns L m := by
  obtain ⟨ob, es, ep, ho, rest⟩ := h
  exact ⟨ob, es, ep, e.keeps _ _ ho hf hE, rest⟩

theorem IR.step {X : Cf} {t0 t u : St} {C x dx L : Addr} {sn : Str} {ls : List Str} {σ : List V} {ks ks' : List Nat} {vs vs' : List V} (ir : IR X t0 t C x dx L sn ls σ ks vs) (e : Ext (· = dx) t u)
    (gd : ∃ ds ep, u.s.heap.get? dx = some (dictOf ds ep) ∧ KeysR X.w.params (ks'.map attrName) ds ∧ VRL X u vs' (ds.map (·.val))) : IR X t0 u C x dx L sn ls σ ks' vs' := by
  obtain ⟨m, h1, h2⟩ := ir.slf
  obtain ⟨ds, ep, h3, _⟩ := ir.gd
  exact { e := ir.e.trans e, F := ir.F.ext e ir.ne.2, slf := ⟨m, Ns.ext h1 e ir.F.off ir.ne.2, h2⟩, gx := e.keeps _ _ ir.gx ir.fx ir.ne.1, gd := gd, wx := e.wmono _ ir.wx, wd := e.wmono _ ir.wd, fx := fun z => ir.fx (e.footOld (Heap.lt_size ir.gx) z), fd := fun z => ir.fd (e.footOld (Heap.lt_size h3) z), ne := ir.ne }

theorem init_wp {Z : Zx} (O : Zok Z) {C x dx : Addr} {self : Str} {σ : List V} (hself : Z.env.kindOf self = some .local) (hdbg : isDbg self = false) {t0 : St} {Q : Flow → Shared → Prop} {E' : Value → Shared → Prop} {p : List V × Hp} {kz : List Nat} {vz : List V}
    (k : ∀ t, Inv Z.X t p.2 → IR Z.X t0 t C x dx Z.env.locals self Z.cx.ls σ kz (vz ++ p.1) → Q .next t.s) :
    ∀ (body : List Stmt) (l : List (Nat × N)), initOf Z.cx self body = some l → (∀ f ∈ l.map (·.1), ∃ j, fldIx C f = some j) → ∀ (ks : List Nat) (vs vs2 : List V) (t : St) (H : Hp), ks ++ l.map (·.1) = kz → vs ++ vs2 = vz ++ p.1 → (kz.map attrName).Nodup → kz.length ≤ 500 →
      evalEs Z.T (toN (l.map (·.2))) σ H = some (vs2, p.2) → Inv Z.X t H → IR Z.X t0 t C x dx Z.env.locals self Z.cx.ls σ ks vs → wpAny (model Z.X.prog Z.X.w) Z.A (execs body Z.env) Q E' t.s
  | [], l, hl, _, ks, vs, vs2, t, H, hk, hv, _, _, e, I, ir => by
    cases hl
    cases e
    rw [List.append_nil] at hv
    subst hv
    refine wpAny_execs_nil (k t I ?_)
    rw [List.map_nil, List.append_nil] at hk
    rw [← hk]; exact ir
  | st :: body, l, hl, hf, ks, vs, vs2, t, H, hk, hv, hnd, hsz, e, I, ir => by
    obtain ⟨⟨name, v⟩, hst, hl⟩ := Option.bind_eq_some_iff.mp hl
    obtain ⟨f, hfi, hl⟩ := Option.bind_eq_some_iff.mp hl
    obtain ⟨l', hl', rfl⟩ := Option.map_eq_some_iff.mp hl
    obtain ⟨pa, pb, pc, rfl, hcomp⟩ := setO_eq hst
    obtain ⟨⟨v1, H1⟩, e1, e⟩ := bnd_some e
    obtain ⟨⟨vs3, H2⟩, e2, e⟩ := bnd_some e
    cases e
    have hfi : attrNames.idxOf? name = some f := hfi
    rw [ix_name hfi]
    refine wpAny_execs_cons (plainObj_wpAny_Assign_Attribute (Sat.then ((cE_ok 30 Z O v).1 t σ ir.F H I _ e1) fun t1 y1 x1 r1 => ?_) (swap_no hcomp))
    obtain ⟨I1, r1⟩ := r1
    obtain ⟨m, hm1, hm2⟩ := ir.slf
    refine wpAny_Name (wpAny_loadName_local O.C.kind hself (Ns.ext hm1 x1 ir.F.off fun h => h) hm2 ?_) hdbg
    obtain ⟨ds, ep, g1, k1, v0⟩ := ir.gd
    have gd1 := x1.keeps _ _ g1 ir.fd (fun h => h)
    obtain ⟨j, hj⟩ := hf f List.mem_cons_self
    obtain ⟨a1, a2, ⟨a, a3, a4⟩, a5, a6, a7⟩ := O.B.ko.attr C f j hj
    have hkl := k1.length
    rw [List.length_map] at hkl
    have hlen : ds.length ≤ 1000 := by
      rw [← hk, List.length_append] at hsz
      omega
    have hfresh : (ks.map attrName).idxOf? (attrName f) = none := by
      rw [List.idxOf?_eq_none_iff]
      intro hc
      rw [← hk, List.map_append, List.nodup_append] at hnd
      exact hnd.2.2 _ hc (attrName f) List.mem_cons_self rfl
    obtain ⟨ds', p1, p2, p3⟩ := put_none (key := .str (attrName f) (t1.s.toks + 1)) (v := y1) (t := t1.s.toks + 1) rfl k1 hfresh
    refine Wp.any (X := Z.X) (setAttr_core (O.B.kin.keeps I1.keep) (x1.keeps _ _ ir.gx ir.fx fun h => h) gd1 a6 a7 a5 a2 (keys_noRef k1) hlen ?_)
    have wd1 := x1.wmono _ ir.wd
    have fd1 : ¬ Foot t1.α dx := fun z => ir.fd (x1.footOld (Heap.lt_size g1) z)
    obtain ⟨I2, x2⟩ := I1.turn (h' := t1.s.heap.update dx (Obj.putName (attrName f) (PyData.keyHash Z.X.w.params (attrName f)) (.str (attrName f) (t1.s.toks + 1)) y1)) (t1.s.toks + 1 + 1) wd1 fd1 (fun b o hb g => by rw [Heap.get?_update_other _ _ (Ne.symm hb)]; exact g) (by rw [Heap.size_after_update]; exact Nat.le_refl _)
    have x12 := x1.no.trans x2
    have D' : (t1.s.heap.update dx (Obj.putName (attrName f) (PyData.keyHash Z.X.w.params (attrName f)) (.str (attrName f) (t1.s.toks + 1)) y1)).get? dx = some (dictOf ds' (putN (attrName f) ds ep)) := by
      rw [Heap.get?_update_self _ gd1 (by rw [putName_dict]; rfl), putName_dict, p1]
    exact init_wp O hself hdbg k body l' hl' (fun g hg => hf g (List.mem_cons_of_mem _ hg)) (ks ++ [f]) (vs ++ [v1]) vs3 ⟨_, t1.α, t1.W⟩ H1 (by rw [List.append_assoc]; exact hk) (by rw [List.append_assoc]; exact hv) hnd hsz e2 I2 (ir.step x12 ⟨ds', _, D', by rw [List.map_append]; exact p2, by rw [p3]; exact (x12.vrs (X := Z.X) v0).append (ws := [v1]) (ys := [y1]) ⟨x2.vr (X := Z.X) r1, trivial⟩⟩)
end

section

theorem two_args {fd : FuncData} {a b : Str} (h : psOf fd = [a, b]) : ∃ x y p q, fd.params.args = [⟨a, x, p⟩, ⟨b, y, q⟩] := by
  unfold psOf at h
  match hq : fd.params.args, h with
  | [⟨a, x, p⟩, ⟨b, y, q⟩], h => cases h; exact ⟨x, y, p, q, rfl⟩
theorem bind_dflt2 {s : Shared} {fd : FuncData} {v d : Value} {Td : Addr} {o : Obj} {m : Nat} (h1 : fd.params.posonlyargs = []) (h3 : fd.params.kwonlyargs = []) (h4 : fd.params.vararg = none) (h5 : fd.params.kwarg = none) (hd : fd.defaults = .ref Td) (ho : s.heap.get? Td = some o) (hs : o.data = .seq #[d] m)
    (hps : psOf fd = [("self" : Str), ("file" : Str)]) : BindsTo s fd ⟨[v], []⟩ [("self", v), ("file", d)] := by
  obtain ⟨x, y, p, q, ha⟩ := two_args hps
  have hp := par_of h1 h3 h4 h5
  rw [ha] at hp
  rw [fd_eta hp hd]
  intro M A E Q hq
  exact wpAny_bind (m := seqItems? (.ref Td)) (wpAny_seqItems ho hs (wpAny_of_eq (by kernel_rfl) hq))

theorem weight_tc (a : Args) : (Code.builtin "type.__call__" a).weight ≤ 2 ∧ (Code.builtin "type.__call__" a).cUnits ≤ 4 := by
  have hf : (Code.builtin "type.__call__" a).frames = 0 := by rfl
  have h1 : (Code.builtin "type.__call__" a).isGuard = false := by rfl
  have h2 : (Code.builtin "type.__call__" a).isCaller = false := by rfl
  constructor
  · unfold Code.weight
    rw [hf, h1, h2]
    split <;> simp
  · unfold Code.cUnits
    simp [hf]

theorem make_s {prog : Program} {w : World} {A : Around} {s : Shared} {C : Addr} {R : Result → Shared → Prop} {rest : List Value} {init : Value} (Y : Makes (model prog w) s.heap C) (hi : Looks (model prog w) s.heap (typeLookup (.ref C) "__init__") (some init)) (hb : ∀ self, Looks (model prog w) s.heap (bindSpecial init self) (init, [self]))
    (hne : (some init != some (Value.builtin "object.__init__")) = true) (hq : codeAny (model prog w) (A.under (.builtin "type.__call__" ⟨.ref C :: rest, []⟩)) (.call init ⟨.ref (s.heap.objs.size + 1) :: rest, []⟩) (InitBack (s.heap.objs.size + 1) R) { s with heap := (s.heap.push emptyDict).push (instObj C s.heap.objs.size) }) :
    codeAny (model prog w) A (.call (.ref C) ⟨rest, []⟩) R s := by
  obtain ⟨h, g, d, t, os⟩ := s
  exact make_core Y hi hb (.inl hne) hq

section
variable {X : Cf} {n : Nat} {G : List (Str × Gv)} {T : Tab} {A : Around} {t : St} {H : Hp} {vs : List V} {xs : List Value}

theorem dflt_binds {fd : FuncData} {b : Bool} {s : Shared} {x : Value} (c : FdOk X.K fd) (h : dfltOk X.K fd b = true) (hK : X.K.In s.heap) (hl : (V.undef :: (vs ++ dsOf b)).length = (psOf fd).length) (hv : vs.length = xs.length) :
    ∃ dxs, dxs.length = (dsOf b).length ∧ (∀ u : St, VRL X u (dsOf b) dxs) ∧ BindsTo s fd ⟨x :: xs, []⟩ ((psOf fd).zip (x :: (xs ++ dxs))) := by
  cases b with
  | false =>
    refine ⟨[], rfl, fun z' => trivial, ?_⟩
    rw [List.append_nil]
    exact .of_eq (bind_plain c.po c.ko c.va c.kw (isNoneV_eq h) c.nd (by
      have hl : (vs ++ []).length + 1 = (psOf fd).length := hl
      rw [List.append_nil, hv] at hl; exact hl))
  | true =>
    obtain ⟨u, h⟩ := Option.isSome_iff_exists.mp h
    obtain ⟨a, ha, h⟩ := Option.bind_eq_some_iff.mp h
    obtain ⟨o, ho, h⟩ := Option.bind_eq_some_iff.mp h
    obtain ⟨q, _, h⟩ := Option.bind_eq_some_iff.mp h
    obtain ⟨v, hv0, h⟩ := Option.bind_eq_some_iff.mp h
    obtain ⟨z, _, h⟩ := Option.bind_eq_some_iff.mp h
    have h := guardO_some h
    rw [Bool.and_eq_true, decide_eq_true_eq, decide_eq_true_eq] at h
    have hx : xs = [] := List.eq_nil_of_length_eq_zero (by
      have hl : (vs ++ [V.str []]).length + 1 = (psOf fd).length := hl
      rw [List.length_append, hv, h.1] at hl; exact Nat.succ.inj (Nat.succ.inj hl))
    have hd : q.1.1 = #[.str (toStr []) z.1.2] := Array.toList_inj.mp ((oneL_eq hv0).trans (by rw [← h.2]; exact congrArg (fun v => [v]) z.2))
    refine ⟨[.str (toStr []) z.1.2], rfl, fun z' => ⟨⟨⟨Nat.zero_le _, fun z' h => nomatch h⟩, _, rfl⟩, trivial⟩, ?_⟩
    rw [h.1, hx]
    exact bind_dflt2 c.po c.ko c.va c.kw (refV_eq ha) (hK _ _ ho) (q.2.trans (congrArg (fun l => Data.seq l q.1.2) hd)) h.1

theorem inst_new (I : Inv X t H) (C : Nat) : ∃ tb : St, tb.s = { t.s with heap := (t.s.heap.push emptyDict).push (instObj C t.s.heap.objs.size) } ∧ Inv X tb H ∧ Ext noX t tb ∧ tb.W t.s.heap.objs.size ∧ tb.W (t.s.heap.objs.size + 1) ∧ tb.α = t.α := by
  have sza : (t.s.heap.push emptyDict).objs.size = t.s.heap.objs.size + 1 := Heap.size_push _ _
  obtain ⟨Ia, ea⟩ := I.watch (h' := t.s.heap.push emptyDict) (L := t.s.heap.objs.size) t.s.toks (fun b o g => Heap.get?_push_of_some _ g) (Nat.le_refl _) (by rw [sza]; exact Nat.lt_succ_self _)
  obtain ⟨Ib, eb⟩ := Ia.watch (h' := (t.s.heap.push emptyDict).push (instObj C t.s.heap.objs.size)) (L := t.s.heap.objs.size + 1) t.s.toks (fun b o g => Heap.get?_push_of_some _ g) (Nat.le_of_eq sza) (by rw [Heap.size_push, sza]; exact Nat.lt_succ_self _)
  exact ⟨_, rfl, Ib, ea.trans eb, .inl (.inr rfl), .inr rfl, rfl⟩
theorem ir_new {tb u : St} {z L : Addr} {C : Nat} {sn : Str} {ls : List Str} {σ : List V} (hs : tb.s = { t.s with heap := (t.s.heap.push emptyDict).push (instObj C z) }) (hz : t.s.heap.objs.size = z) (no : ∀ b, z ≤ b → ¬ Foot tb.α b) (w : tb.W z ∧ tb.W (z + 1)) (hL : L = tb.s.heap.objs.size)
    (e : Ext noX tb u) (F : Frm X u L ls σ) (sl : ∃ m, u.s.heap.Ns L m ∧ m sn = some (.ref (z + 1))) : IR X u u C (z + 1) z L sn ls σ [] [] := by
  have gx : tb.s.heap.get? (z + 1) = some (instObj C z) := by
    rw [hs, ← hz, ← Heap.size_push t.s.heap emptyDict]; exact Heap.get?_push_size _ rfl
  have gd : tb.s.heap.get? z = some (dictOf [] 0) := by
    rw [hs, ← hz]; exact Heap.get?_push_of_some _ (Heap.get?_push_size _ rfl)
  exact { e := .refl, F := F, slf := sl, gx := e.keeps _ _ gx (no _ (Nat.le_succ _)) fun h => h, gd := ⟨[], 0, e.keeps _ _ gd (no _ (Nat.le_refl _)) fun h => h, trivial, trivial⟩
          wx := e.wmono _ w.2, wd := e.wmono _ w.1, fx := fun q => no _ (Nat.le_succ _) (e.footOld (Heap.lt_size gx) q), fd := fun q => no _ (Nat.le_refl _) (e.footOld (Heap.lt_size gd) q)
          ne := ⟨Nat.succ_ne_self _, fun h => Nat.lt_irrefl _ (h ▸ (hL ▸ Heap.lt_size gd : z < L))⟩ }
theorem made {t0 v : St} {x dx L : Addr} {C : Nat} {sn : Str} {ls : List Str} {σ : List V} {H1 : Hp} {rec : Bool} {p : V × Hp} (I : Inv X t H) (hx : t.s.heap.objs.size ≤ x) (hd : t.s.heap.objs.size ≤ dx) (e3 : Ext noX t v) (Iv : Inv X v H1) (iv : IR X t0 v C x dx L sn ls σ (fieldsOf C) vs) (e : mkV rec C vs H1 = some p) :
    QQ noX t (fun u a => Inv X u p.2 ∧ VRl X u p.1 a) (.ref x) v.s := by
  obtain ⟨ds, ep, g3, k3, v3⟩ := iv.gd
  have lt : ∀ b, t.W b → b ≠ x ∧ b ≠ dx := fun b z => ⟨Nat.ne_of_lt (Nat.lt_of_lt_of_le (I.wlt b z) hx), Nat.ne_of_lt (Nat.lt_of_lt_of_le (I.wlt b z) hd)⟩
  cases rec with
  | true =>
    cases e
    refine ⟨⟨v.s, v.α, fun b => v.W b ∧ b ≠ x ∧ b ≠ dx⟩, rfl, { e3 with wmono := fun b z => ⟨e3.wmono b z, lt b z⟩, wnew := fun b hb z => e3.wnew b hb z.1 }, Iv.unwatch (W' := fun b => v.W b ∧ b ≠ x ∧ b ≠ dx) (fun b z => z.1) fun p hp =>
      ⟨⟨(Iv.foot p hp).1, fun z => iv.fx ⟨p, hp, .inl z.symm⟩, fun z => iv.fd ⟨p, hp, .inl z.symm⟩⟩, (Iv.foot p hp).2, fun z => iv.fx ⟨p, hp, .inr z.symm⟩, fun z => iv.fd ⟨p, hp, .inr z.symm⟩⟩, ?_⟩
    exact ⟨x, dx, ds, ep, rfl, fun z => z.2.1 rfl, fun z => z.2.2 rfl, iv.gx, g3, k3, VRs.mv (t := v) (u := ⟨v.s, v.α, fun b => v.W b ∧ b ≠ x ∧ b ≠ dx⟩) ⟨fun z' z' g z' => g, fun z' z' z' z => z.1, fun z' z' h => h⟩ _ _ v3⟩
  | false =>
    cases e
    exact ⟨⟨v.s, v.α ++ [(x, dx)], v.W⟩, rfl, e3.grow ⟨hx, hd⟩, Iv.adopt (p := (x, dx)) (o := .inst C vs) iv.wx iv.wd iv.fx iv.fd ⟨ds, ep, iv.gx, g3, k3, VRs.mv Mv.grow _ _ v3⟩, (x, dx), by rw [← Iv.len]; exact List.getElem?_concat_length, rfl⟩
theorem field_ix {C : Nat} {f : Nat} (hf : f ∈ fieldsOf C) : ∃ j, fldIx C f = some j := by
  unfold fldIx
  cases hq : (fieldsOf C).idxOf? f with
  | none => rw [List.idxOf?_eq_none_iff] at hq; exact absurd hf hq
  | some j => exact ⟨j, rfl⟩
theorem initFn_eq {K : Frag} {C f : Nat} (h : initFn K C = some f) : findIn K (.ref C) "__init__" = some (some (.ref f)) := by
  unfold initFn at h
  split at h
  · rename_i e1; cases h; exact e1
  · cases h
theorem self_hd {fd : FuncData} (h : (!((psOf fd).isEmpty)) = true) : ∃ b, psOf fd = selfOf fd :: b := by
  unfold selfOf
  cases hq : psOf fd with
  | nil => rw [hq] at h; cases h
  | cons a b => exact ⟨b, rfl⟩

theorem ctor_ok (B : Base X) (HG : ∀ x g, G.lookup x = some g → GOk X x g) (TS : ∀ f, FnOk X n f (T f)) {C npar slots : Nat} {inits : N} {rec dflt : Bool} (ha : ctorAst X.K G C dflt = some (slots, npar, inits)) : FnOk X (n + 1) C (ctorF T rec dflt C slots npar inits) := by
  obtain ⟨fI, hfI, ha⟩ := Option.bind_eq_some_iff.mp ha
  obtain ⟨fd, hfd, ha⟩ := Option.bind_eq_some_iff.mp ha
  obtain ⟨body, hbody, ha⟩ := Option.bind_eq_some_iff.mp ha
  obtain ⟨_, hok, ha⟩ := Option.bind_eq_some_iff.mp ha
  obtain ⟨l, hl, ha⟩ := Option.bind_eq_some_iff.mp ha
  obtain ⟨_, hfields, ha⟩ := Option.map_eq_some_iff.mp ha
  have hfields : l.map (·.1) = fieldsOf C := of_decide_eq_true (guardO_some hfields)
  cases ha
  have hok := guardO_some hok
  unfold ctorOk at hok
  simp only [Bool.and_eq_true, decide_eq_true_eq] at hok
  have c := fnOk_of hok.1
  obtain ⟨hkeep, o, ho, hd⟩ := fdOf_some hfd
  refine .inr ⟨hok.2.2.2.2.1, fun A t vs xs R r H I p e => ?_⟩
  obtain ⟨hlen, e⟩ := gd_some e
  refine bnd_get e fun vs2 H1 h1 e => ?_
  have K0 := B.kin.keeps I.keep
  refine wpAny_call (make_s (makes_of K0 hok.2.2.1) (looks_findIn K0 (initFn_eq hfI)) (fun self => bind_fn K0 self (beq_iff_eq.mp hok.2.2.2.1)) rfl ?_)
  obtain ⟨tb, htb, Ib, eab, wd, wx, hα⟩ := inst_new I C
  rw [← htb]
  obtain ⟨dxs, hdl, rd, hbind⟩ := dflt_binds (x := .ref (t.s.heap.objs.size + 1)) c hok.2.1 (B.kin.keeps Ib.keep) hlen r.length
  have rv : VRL X tb (vs ++ dsOf dflt) (xs ++ dxs) := (eab.vrs (X := X) r).append (rd tb)
  obtain ⟨w1, w2⟩ := weight_tc ⟨.ref C :: xs, []⟩
  have hRd := R.depth
  have hRu := R.units
  refine codeAny_call_def (by show A.depth + _ < 1000; omega) (B.kin.keeps Ib.keep _ _ ho) hd (B.lim.keeps Ib.keep) (codeIn_rec (B.kin.keeps Ib.keep) c.code) (stmtsO_eq hbody) hbind c.nocell (fun y hy => c.loc y.1 (List.of_mem_zip hy).1) (fun h₁ hns hk => ?_) c.nc c.ng c.kind
  have hxl : (Value.ref (t.s.heap.objs.size + 1) :: (xs ++ dxs)).length = (psOf fd).length := by rw [List.length_cons, ← rv.length]; exact hlen
  obtain ⟨u, hu, I1, e1, F1⟩ := frame_new (fd := fd) (tk := _) (vs := .undef :: (vs ++ dsOf dflt)) (xs := .ref (t.s.heap.objs.size + 1) :: (xs ++ dxs)) rfl c.nd Ib (by rw [List.length_cons, List.length_cons, rv.length]) (fun i v h => by
    cases i with
    | zero => exact .inl (Option.some.inj h).symm
    | succ i => exact .inr (rv.get h)) rfl hxl hns hk
  rw [← hu]
  obtain ⟨ps', hps'⟩ := self_hd hok.2.2.2.2.2.2.1
  have O : Zok ⟨X, (A.under (.builtin "type.__call__" ⟨.ref C :: xs, []⟩)).deeper (callEnv fd tb.s.heap.objs.size fI), T, n, ⟨lsOf fd, fd.scope.names, G⟩, callEnv fd tb.s.heap.objs.size fI⟩ :=
    ⟨B, ⟨R.handled, by show A.depth + _ + 1 + 3 * n ≤ 900; omega, by show A.units + _ + 3 + 30 * n ≤ 8000; omega⟩, TS, ⟨c.kind, rfl, c.gl, c.bi, c.ndl, HG⟩⟩
  refine init_wp O (p := (vs2, H1)) (vz := []) (x := t.s.heap.objs.size + 1) (dx := t.s.heap.objs.size) (C := C) (c.loc (selfOf fd) (by rw [hps']; exact List.mem_cons_self)) (not_t hok.2.2.2.2.2.2.2) (fun v Iv iv => ?_) body l hl (fun f hf => field_ix (hfields ▸ hf)) [] [] vs2 u H hfields rfl hok.2.2.2.2.2.1 fields_le h1 I1
    (ir_new htb rfl (fun b h1 z => Nat.lt_irrefl _ (Nat.lt_of_lt_of_le (I.wlt b (I.footW (hα ▸ z))) h1)) ⟨wd, wx⟩ rfl e1 F1 ⟨_, by rw [hu]; exact hns, binds_get c.nd hxl (i := 0) (by rw [hps']; rfl) rfl⟩)
  exact ⟨rfl, made I (Nat.le_succ _) (Nat.le_refl _) (((eab.trans e1).no.trans iv.e).to fun b q => .inr (Nat.le_of_eq q.symm)) Iv iv e⟩
end
end

section

mutual
noncomputable def cvB (n : Nat) : V → Bool
  | .ref i => decide (i < n)
  | .tup vs => cvsB n vs
  | .dict _ vs => cvsB n vs
  | .obj _ vs => cvsB n vs
  | _ => true
noncomputable def cvsB (n : Nat) : List V → Bool
  | [] => true
  | v :: vs => cvB n v && cvsB n vs
end
noncomputable def coB (n : Nat) : O → Bool
  | .list vs => cvsB n vs
  | .inst _ vs => cvsB n vs

mutual
theorem VR.closed {P : Params} {t : St} : ∀ (v : V) (x : Value), VR P t v x → cvB t.α.length v = true
  | .none, _, _ => rfl
  | .undef, _, _ => rfl
  | .bool _, _, _ => rfl
  | .int _, _, _ => rfl
  | .str _, _, _ => rfl
  | .rng _ _, _, _ => rfl
  | .tup vs, _, r => VRs.closed vs _ r.2.choose_spec.choose_spec.2.2.2
  | .dict _ vs, _, r => VRs.closed vs _ r.choose_spec.choose_spec.choose_spec.2.2.2.2.2
  | .obj _ vs, _, r => VRs.closed vs _ r.choose_spec.choose_spec.choose_spec.choose_spec.2.2.2.2.2.2
  | .ref i, _, r => decide_eq_true (List.getElem?_eq_some_iff.mp r.choose_spec.1).1
theorem VRs.closed {P : Params} {t : St} : ∀ (vs : List V) (xs : List Value), VRs P t vs xs → cvsB t.α.length vs = true
  | [], _, _ => rfl
  | v :: vs, x :: xs, r => by rw [cvsB, VR.closed v x r.1, VRs.closed vs xs r.2]; rfl
  | _ :: _, [], r => r.elim
end

section
variable {P : Params} {t u : St} {m : Nat}
structure Cut (m : Nat) (t u : St) : Prop where
  s : u.s = t.s
  W : u.W = t.W
  a : ∀ i, i < m → u.α[i]? = t.α[i]?
mutual
theorem VR.cut (c : Cut m t u) : ∀ (v : V) (x : Value), cvB m v = true → VR P t v x → VR P u v x
  | .none, _, _, r => r
  | .undef, _, _, r => r
  | .bool _, _, _, r => r
  | .int _, _, _, r => r
  | .str _, _, _, r => r
  | .rng _ _, _, _, r => by obtain ⟨a, k, p, q, h1, h2, h3⟩ := r; exact ⟨a, k, p, q, h1, by rw [c.W]; exact h2, by rw [c.s]; exact h3⟩
  | .tup vs, _, h, r => by obtain ⟨hz, a, xs, h1, h2, h3, hv⟩ := r; exact ⟨hz, a, xs, h1, by rw [c.W]; exact h2, by rw [c.s]; exact h3, VRs.cut c vs xs h hv⟩
  | .dict _ vs, _, h, r => by obtain ⟨a, ds, ep, h1, h2, h3, h4, h5, hv⟩ := r; exact ⟨a, ds, ep, h1, by rw [c.W]; exact h2, h3, by rw [c.s]; exact h4, h5, VRs.cut c vs _ h hv⟩
  | .obj _ vs, _, h, r => by obtain ⟨a, dx, ds, ep, h1, h2, h3, h4, h5, h6, hv⟩ := r; exact ⟨a, dx, ds, ep, h1, by rw [c.W]; exact h2, by rw [c.W]; exact h3, by rw [c.s]; exact h4, by rw [c.s]; exact h5, h6, VRs.cut c vs _ h hv⟩
  | .ref i, _, h, r => by obtain ⟨p, hp, q⟩ := r; exact ⟨p, by rw [c.a i (of_decide_eq_true h)]; exact hp, q⟩
theorem VRs.cut (c : Cut m t u) : ∀ (vs : List V) (xs : List Value), cvsB m vs = true → VRs P t vs xs → VRs P u vs xs
  | [], [], _, _ => trivial
  | v :: vs, x :: xs, h, r => by
    rw [cvsB, Bool.and_eq_true] at h
    exact ⟨VR.cut c v x h.1 r.1, VRs.cut c vs xs h.2 r.2⟩
  | _ :: _, [], _, r => r.elim
  | [], _ :: _, _, r => r.elim
end
theorem OR.cut (c : Cut m t u) {o : O} {p : Addr × Addr} (h : coB m o = true) (r : OR P t o p) : OR P u o p := by
  cases o with
  | list vs => obtain ⟨h1, h2, xs, h3, hv⟩ := r; exact ⟨h1, h2, xs, by rw [c.s]; exact h3, VRs.cut c vs xs h hv⟩
  | inst C vs => obtain ⟨ds, ep, h1, h2, h3, hv⟩ := r; exact ⟨ds, ep, by rw [c.s]; exact h1, by rw [c.s]; exact h2, h3, VRs.cut c vs _ h hv⟩
end

def Dead (m : Nat) (H H1 : Hp) (v : V) : Prop := H.length ≤ m ∧ m ≤ H1.length ∧ cvB m v = true ∧ ∀ (j : Nat) (o : O), j < m → H1[j]? = some o → H[j]? = some o ∨ coB m o = true

theorem OR.closed {P : Params} {t : St} {o : O} {p : Addr × Addr} (r : OR P t o p) : coB t.α.length o = true := by
  cases o with
  | list vs => exact VRs.closed vs _ r.2.2.choose_spec.2
  | inst C vs => exact VRs.closed vs _ r.choose_spec.choose_spec.2.2.2
mutual
theorem cvB_mono {n m : Nat} (h : n ≤ m) : ∀ v, cvB n v = true → cvB m v = true
  | .none, _ => rfl
  | .undef, _ => rfl
  | .bool _, _ => rfl
  | .int _, _ => rfl
  | .str _, _ => rfl
  | .rng _ _, _ => rfl
  | .tup vs, e => cvsB_mono h vs e
  | .dict _ vs, e => cvsB_mono h vs e
  | .obj _ vs, e => cvsB_mono h vs e
  | .ref i, e => decide_eq_true (Nat.lt_of_lt_of_le (of_decide_eq_true e) h)
theorem cvsB_mono {n m : Nat} (h : n ≤ m) : ∀ vs, cvsB n vs = true → cvsB m vs = true
  | [], _ => rfl
  | v :: vs, e => by
    rw [cvsB, Bool.and_eq_true] at e
    rw [cvsB, cvB_mono h v e.1, cvsB_mono h vs e.2]; rfl
end
theorem coB_mono {n m : Nat} (h : n ≤ m) {o : O} (e : coB n o = true) : coB m o = true := by cases o <;> exact cvsB_mono h _ e

section
variable {X : Cf} {n : Nat} {A : Around} {t : St} {H : Hp}

theorem Inv.forget {u : St} {H1 : Hp} {m : Nat} {v : V} {x : Value} (I0 : Inv X t H) (e : Ext noX t u) (I : Inv X u H1) (r : VRl X u v x) (d : Dead m H H1 v) : QQ noX t (fun w a => Inv X w (H1.take m) ∧ VRl X w v a) x u.s := by
  obtain ⟨d1, d2, d3, d4⟩ := d
  have c : Cut m u ⟨u.s, u.α.take m, u.W⟩ := ⟨rfl, rfl, fun i hi => List.getElem?_take_of_lt hi⟩
  have hl : (u.α.take m).length = m := by rw [List.length_take, I.len]; exact Nat.min_eq_left d2
  obtain ⟨β, hβ, hβ2⟩ := e.pre
  refine ⟨⟨u.s, u.α.take m, u.W⟩, rfl, ⟨⟨β.take (m - t.α.length), ?_, fun p hp => hβ2 p (List.mem_of_mem_take hp)⟩, e.size, e.wmono, e.wnew, e.keeps, e.keepsV, e.gens, e.os⟩, ⟨I.keep, I.low, ?_, fun i o ho => ?_, fun p hp => I.foot p (List.mem_of_mem_take hp), fun i j p q hp hq hij => ?_, I.wlt⟩, VR.cut c v x d3 r⟩
  · show u.α.take m = _
    rw [hβ, List.take_append, List.take_of_length_le (by rw [I0.len]; exact d1)]
  · exact hl.trans (by rw [List.length_take]; exact (Nat.min_eq_left d2).symm)
  · have hi : i < m := by have := (List.getElem?_eq_some_iff.mp ho).1; rw [List.length_take] at this; omega
    rw [List.getElem?_take_of_lt hi] at ho
    obtain ⟨p, hp, r⟩ := I.objs i o ho
    refine ⟨p, (c.a i hi).trans hp, OR.cut c ?_ r⟩
    rcases d4 i o hi ho with h | h
    · obtain ⟨q, _, k⟩ := I0.objs i o h
      exact coB_mono (by rw [I0.len]; exact d1) k.closed
    · exact h
  · have h1 : i < m := by have := (List.getElem?_eq_some_iff.mp hp).1; rw [hl] at this; exact this
    have h2 : j < m := by have := (List.getElem?_eq_some_iff.mp hq).1; rw [hl] at this; exact this
    rw [c.a i h1] at hp
    rw [c.a j h2] at hq
    exact I.apart i j p q hp hq hij

open Classical in
noncomputable def trunc (k : Nat) (run : Fn) : Fn := fun args H => match run args H with
  | none => none
  | some p => if Dead (H.length + k) H p.2 p.1 then some (p.1, p.2.take (H.length + k)) else none

theorem trunc_ok {f k : Nat} {run : Fn} (ok : FnOk X n f run) : FnOk X n f (trunc k run) := by
  rcases ok with ok | ⟨hk, ok⟩
  · exact .inl fun vs H => by unfold trunc; rw [ok]
  · refine .inr ⟨hk, fun A t vs xs R r H I p e => ?_⟩
    unfold trunc at e
    cases h : run vs H with
    | none => rw [h] at e; cases e
    | some q =>
      rw [h] at e
      dsimp only at e
      split at e
      · rename_i d
        cases e
        refine wpAny_mono (ok A t vs xs R r H I q h) (fun a s qq => ?_) fun z' z' x => x
        obtain ⟨u, rfl, e1, I1, r1⟩ := qq
        exact I.forget e1 I1 r1 d
      · cases e
theorem trunc_eq {k : Nat} {run : Fn} {args : List V} {H' G : Hp} {v : V} (h : run args H = some (v, H' ++ G)) (hl : H'.length = H.length + k) (hv : cvB H'.length v = true) (hc : ∀ (j : Nat) (o : O), H'[j]? = some o → H[j]? = some o ∨ coB H'.length o = true) : trunc k run args H = some (v, H') := by
  unfold trunc
  rw [h]
  have d : Dead (H.length + k) H (H' ++ G) v := ⟨Nat.le_add_right _ _, by rw [List.length_append, hl]; exact Nat.le_add_right _ _, by rw [← hl]; exact hv, fun j o hj ho => by
    rw [List.getElem?_append_left (by rw [hl]; exact hj)] at ho
    rw [← hl]; exact hc j o ho⟩
  exact (if_pos d).trans (by rw [← hl]; show some (v, (H' ++ G).take H'.length) = _; rw [List.take_left' rfl])

theorem FnOk.mono {f m : Nat} {sp : Fn} (h : n ≤ m) (ok : FnOk X n f sp) : FnOk X m f sp :=
  ok.imp_right fun ⟨a, b⟩ => ⟨a, fun A t vs xs R r => b A t vs xs ⟨R.handled, by have := R.depth; omega, by have := R.units; omega⟩ r⟩

noncomputable def extT (T : Tab) (f : Nat) (sp : Fn) : Tab := fun g => if g = f then sp else T g
theorem ext_ok {T : Tab} {f : Nat} {sp : Fn} (h : ∀ g, FnOk X n g (T g)) (ok : FnOk X (n + 1) f sp) : ∀ g, FnOk X (n + 1) g (extT T f sp g) := fun g => by
  unfold extT
  split
  · rename_i e; subst e; exact ok
  · exact (h g).mono (Nat.le_succ n)
end
end

section
noncomputable def s_DIGIT_LETTERS : List Nat := [nat_lit 48, nat_lit 49, nat_lit 50, nat_lit 51, nat_lit 52, nat_lit 53, nat_lit 54, nat_lit 55, nat_lit 56, nat_lit 57]
noncomputable def s_NAME_LETTERS : List Nat := [nat_lit 97, nat_lit 98, nat_lit 99, nat_lit 100, nat_lit 101, nat_lit 102, nat_lit 103, nat_lit 104, nat_lit 105, nat_lit 106, nat_lit 107, nat_lit 108, nat_lit 109, nat_lit 110, nat_lit 111, nat_lit 112, nat_lit 113, nat_lit 114, nat_lit 115, nat_lit 116, nat_lit 117, nat_lit 118, nat_lit 119, nat_lit 120, nat_lit 121, nat_lit 122, nat_lit 65, nat_lit 66, nat_lit 67, nat_lit 68, nat_lit 69, nat_lit 70, nat_lit 71, nat_lit 72, nat_lit 73, nat_lit 74, nat_lit 75, nat_lit 76, nat_lit 77, nat_lit 78, nat_lit 79, nat_lit 80, nat_lit 81, nat_lit 82, nat_lit 83, nat_lit 84, nat_lit 85, nat_lit 86, nat_lit 87, nat_lit 88, nat_lit 89, nat_lit 90, nat_lit 95, nat_lit 36]
noncomputable def s_HEX_LETTERS : List Nat := [nat_lit 48, nat_lit 49, nat_lit 50, nat_lit 51, nat_lit 52, nat_lit 53, nat_lit 54, nat_lit 55, nat_lit 56, nat_lit 57, nat_lit 97, nat_lit 98, nat_lit 99, nat_lit 100, nat_lit 101, nat_lit 102]
noncomputable def s_SIGNS_ONE : List Nat := [nat_lit 123, nat_lit 125, nat_lit 40, nat_lit 41, nat_lit 91, nat_lit 93, nat_lit 59, nat_lit 44, nat_lit 60, nat_lit 62, nat_lit 43, nat_lit 45, nat_lit 42, nat_lit 47, nat_lit 37, nat_lit 38, nat_lit 124, nat_lit 94, nat_lit 126, nat_lit 33, nat_lit 63, nat_lit 58, nat_lit 61, nat_lit 46, nat_lit 64]
noncomputable def d_ESCAPED : V := .dict [[nat_lit 92], [nat_lit 10], [nat_lit 9], [nat_lit 13]] [.str [nat_lit 92, nat_lit 92], .str [nat_lit 92, nat_lit 110], .str [nat_lit 92, nat_lit 116], .str [nat_lit 92, nat_lit 114]]
noncomputable def resW : List (List Nat) := [[nat_lit 98, nat_lit 114, nat_lit 101, nat_lit 97, nat_lit 107], [nat_lit 99, nat_lit 97, nat_lit 115, nat_lit 101], [nat_lit 99, nat_lit 97, nat_lit 116, nat_lit 99, nat_lit 104], [nat_lit 99, nat_lit 108, nat_lit 97, nat_lit 115, nat_lit 115], [nat_lit 99, nat_lit 111, nat_lit 110, nat_lit 115, nat_lit 116], [nat_lit 99, nat_lit 111, nat_lit 110, nat_lit 116, nat_lit 105, nat_lit 110, nat_lit 117, nat_lit 101], [nat_lit 100, nat_lit 101, nat_lit 98, nat_lit 117, nat_lit 103, nat_lit 103, nat_lit 101, nat_lit 114], [nat_lit 100, nat_lit 101, nat_lit 102, nat_lit 97, nat_lit 117, nat_lit 108, nat_lit 116], [nat_lit 100, nat_lit 101, nat_lit 108, nat_lit 101, nat_lit 116, nat_lit 101], [nat_lit 100, nat_lit 111], [nat_lit 101, nat_lit 108, nat_lit 115, nat_lit 101], [nat_lit 101, nat_lit 110, nat_lit 117, nat_lit 109], [nat_lit 101, nat_lit 120, nat_lit 112, nat_lit 111, nat_lit 114, nat_lit 116], [nat_lit 101, nat_lit 120, nat_lit 116, nat_lit 101, nat_lit 110, nat_lit 100, nat_lit 115], [nat_lit 102, nat_lit 97, nat_lit 108, nat_lit 115, nat_lit 101], [nat_lit 102, nat_lit 105, nat_lit 110, nat_lit 97, nat_lit 108, nat_lit 108, nat_lit 121], [nat_lit 102, nat_lit 111, nat_lit 114], [nat_lit 102, nat_lit 117, nat_lit 110, nat_lit 99, nat_lit 116, nat_lit 105, nat_lit 111, nat_lit 110], [nat_lit 105, nat_lit 102], [nat_lit 105, nat_lit 109, nat_lit 112, nat_lit 111, nat_lit 114, nat_lit 116], [nat_lit 105, nat_lit 110], [nat_lit 105, nat_lit 110, nat_lit 115, nat_lit 116, nat_lit 97, nat_lit 110, nat_lit 99, nat_lit 101, nat_lit 111, nat_lit 102], [nat_lit 110, nat_lit 101, nat_lit 119], [nat_lit 110, nat_lit 117, nat_lit 108, nat_lit 108], [nat_lit 114, nat_lit 101, nat_lit 116, nat_lit 117, nat_lit 114, nat_lit 110], [nat_lit 115, nat_lit 117, nat_lit 112, nat_lit 101, nat_lit 114], [nat_lit 115, nat_lit 119, nat_lit 105, nat_lit 116, nat_lit 99, nat_lit 104], [nat_lit 116, nat_lit 104, nat_lit 105, nat_lit 115], [nat_lit 116, nat_lit 104, nat_lit 114, nat_lit 111, nat_lit 119], [nat_lit 116, nat_lit 114, nat_lit 117, nat_lit 101], [nat_lit 116, nat_lit 114, nat_lit 121], [nat_lit 116, nat_lit 121, nat_lit 112, nat_lit 101, nat_lit 111, nat_lit 102], [nat_lit 118, nat_lit 97, nat_lit 114], [nat_lit 118, nat_lit 111, nat_lit 105, nat_lit 100], [nat_lit 119, nat_lit 104, nat_lit 105, nat_lit 108, nat_lit 101], [nat_lit 119, nat_lit 105, nat_lit 116, nat_lit 104]]
noncomputable def d_RESERVED : V := .dict resW (List.replicate 36 (.int (.ofNat 1)))
noncomputable def d_ESCAPES : V := .dict [[nat_lit 110], [nat_lit 116], [nat_lit 114], [nat_lit 98], [nat_lit 118], [nat_lit 102]] [.str [nat_lit 10], .str [nat_lit 9], .str [nat_lit 13], .str [nat_lit 8], .str [nat_lit 11], .str [nat_lit 12]]
noncomputable def l_SIGNS_THREE : List (List Nat) := [[nat_lit 46, nat_lit 46, nat_lit 46], [nat_lit 61, nat_lit 61, nat_lit 61], [nat_lit 33, nat_lit 61, nat_lit 61], [nat_lit 42, nat_lit 42, nat_lit 61], [nat_lit 38, nat_lit 38, nat_lit 61], [nat_lit 124, nat_lit 124, nat_lit 61], [nat_lit 63, nat_lit 63, nat_lit 61]]
noncomputable def t_SIGNS_THREE : V := .tup (l_SIGNS_THREE.map .str)
noncomputable def l_SIGNS_TWO : List (List Nat) := [[nat_lit 61, nat_lit 62], [nat_lit 61, nat_lit 61], [nat_lit 33, nat_lit 61], [nat_lit 62, nat_lit 61], [nat_lit 60, nat_lit 61], [nat_lit 38, nat_lit 38], [nat_lit 124, nat_lit 124], [nat_lit 63, nat_lit 63], [nat_lit 63, nat_lit 46], [nat_lit 43, nat_lit 43], [nat_lit 45, nat_lit 45], [nat_lit 43, nat_lit 61], [nat_lit 45, nat_lit 61], [nat_lit 42, nat_lit 61], [nat_lit 37, nat_lit 61], [nat_lit 42, nat_lit 42]]
noncomputable def t_SIGNS_TWO : V := .tup (l_SIGNS_TWO.map .str)
noncomputable def theG : List (Str × Gv) := [
  (Str.ofString "DIGIT_LETTERS", Gv.lit (.str s_DIGIT_LETTERS)),
  (Str.ofString "NAME_LETTERS", Gv.lit (.str s_NAME_LETTERS)),
  (Str.ofString "HEX_LETTERS", Gv.lit (.str s_HEX_LETTERS)),
  (Str.ofString "ESCAPED", Gv.lit d_ESCAPED),
  (Str.ofString "escape_letter", Gv.fn 29),
  (Str.ofString "quote", Gv.fn 36),
  (Str.ofString "template_text", Gv.fn 43),
  (Str.ofString "is_word_letter", Gv.fn 50),
  (Str.ofString "stands_bare", Gv.fn 57),
  (Str.ofString "digits_bare", Gv.fn 64),
  (Str.ofString "prop_key", Gv.fn 71),
  (Str.ofString "Diag", Gv.fn 176),
  (Str.ofString "Diags", Gv.fn 210),
  (Str.ofString "T_END", Gv.lit (.int (.ofNat 0))),
  (Str.ofString "T_NAME", Gv.lit (.int (.ofNat 1))),
  (Str.ofString "T_WORD", Gv.lit (.int (.ofNat 2))),
  (Str.ofString "T_NUM", Gv.lit (.int (.ofNat 3))),
  (Str.ofString "T_STR", Gv.lit (.int (.ofNat 4))),
  (Str.ofString "T_SIGN", Gv.lit (.int (.ofNat 5))),
  (Str.ofString "T_TPL_WHOLE", Gv.lit (.int (.ofNat 6))),
  (Str.ofString "T_TPL_HEAD", Gv.lit (.int (.ofNat 7))),
  (Str.ofString "T_TPL_MIDDLE", Gv.lit (.int (.ofNat 8))),
  (Str.ofString "T_TPL_TAIL", Gv.lit (.int (.ofNat 9))),
  (Str.ofString "MAX_NUM", Gv.lit (.int (.ofNat 9007199254740991))),
  (Str.ofString "RESERVED", Gv.lit d_RESERVED),
  (Str.ofString "SIGNS_THREE", Gv.lit t_SIGNS_THREE),
  (Str.ofString "SIGNS_TWO", Gv.lit t_SIGNS_TWO),
  (Str.ofString "SIGNS_ONE", Gv.lit (.str s_SIGNS_ONE)),
  (Str.ofString "ESCAPES", Gv.lit d_ESCAPES),
  (Str.ofString "STATE_FINE", Gv.lit (.int (.ofNat 0))),
  (Str.ofString "STATE_OPEN", Gv.lit (.int (.ofNat 1))),
  (Str.ofString "STATE_BAD", Gv.lit (.int (.ofNat 2))),
  (Str.ofString "Token", Gv.fn 237),
  (Str.ofString "peek", Gv.fn 248),
  (Str.ofString "is_line_end", Gv.fn 255),
  (Str.ofString "is_wide_line_end", Gv.fn 262),
  (Str.ofString "scanner_is_far", Gv.fn 269),
  (Str.ofString "is_digit", Gv.fn 276),
  (Str.ofString "is_name_start", Gv.fn 283),
  (Str.ofString "is_name_part", Gv.fn 290),
  (Str.ofString "is_reserved", Gv.fn 297),
  (Str.ofString "digit_value", Gv.fn 304),
  (Str.ofString "skip_blank", Gv.fn 325),
  (Str.ofString "scanner_base_at", Gv.fn 332),
  (Str.ofString "read_digits", Gv.fn 339),
  (Str.ofString "skip_number_tail", Gv.fn 346),
  (Str.ofString "read_number", Gv.fn 353),
  (Str.ofString "read_hex_escape", Gv.fn 360),
  (Str.ofString "read_code_point", Gv.fn 367),
  (Str.ofString "read_escape", Gv.fn 374),
  (Str.ofString "scan_string", Gv.fn 381),
  (Str.ofString "read_string", Gv.fn 388),
  (Str.ofString "is_hole", Gv.fn 395),
  (Str.ofString "scan_template", Gv.fn 402),
  (Str.ofString "read_template", Gv.fn 409),
  (Str.ofString "read_sign", Gv.fn 416),
  (Str.ofString "scanner_read_name", Gv.fn 423),
  (Str.ofString "name_token", Gv.fn 430),
  (Str.ofString "number_token", Gv.fn 444),
  (Str.ofString "string_token", Gv.fn 451),
  (Str.ofString "template_token", Gv.fn 458),
  (Str.ofString "read_token", Gv.fn 465),
  (Str.ofString "is_brace", Gv.fn 472),
  (Str.ofString "Scanner", Gv.fn 503),
  (Str.ofString "follow_hole", Gv.fn 514),
  (Str.ofString "scan_all", Gv.fn 521),
  (Str.ofString "Parser", Gv.fn 742),
  (Str.ofString "is_token", Gv.fn 767),
  (Str.ofString "eat_token", Gv.fn 781),
  (Str.ofString "names_prop", Gv.fn 788),
  (Str.ofString "literal_in_brackets", Gv.fn 795),
  (Str.ofString "read_prop_name", Gv.fn 802),
  (Str.ofString "_law_take", Gv.fn 809),
  (Str.ofString "_law_reserved", Gv.fn 816),
  (Str.ofString "_law_piece", Gv.fn 823),
  (Str.ofString "_law_escapes", Gv.fn 830),
  (Str.ofString "_law_beyond", Gv.fn 835),
  (Str.ofString "_law_cooked", Gv.fn 840),
  (Str.ofString "_law_name", Gv.fn 847),
  (Str.ofString "_law_kind", Gv.fn 854),
  (Str.ofString "_law_number", Gv.fn 861),
  (Str.ofString "_law_hex", Gv.fn 868),
  (Str.ofString "_law_cook", Gv.fn 875),
  (Str.ofString "_law_same", Gv.fn 880),
  (Str.ofString "_law_written", Gv.fn 887),
  (Str.ofString "_law_judged", Gv.fn 894),
  (Str.ofString "_law_keys", Gv.fn 901),
  (Str.ofString "_law_holes", Gv.fn 908),
  (Str.ofString "law", Gv.fn 913),
  (Str.ofString "len", Gv.bi .len),
  (Str.ofString "ord", Gv.bi .ord),
  (Str.ofString "chr", Gv.bi .chr),
  (Str.ofString "range", Gv.bi .rng),
  (Str.ofString "str", Gv.bi .str)]
end

section

noncomputable def defO : V → Option V
  | .undef => none
  | v => some v
noncomputable def selR {γ : Type} (r : Fl × List V) (kn kb : List V → M γ) (kr : V → List V → M γ) : M γ := match r.1 with
  | .next => kn r.2
  | .brk => kb r.2
  | .rtn v => kr v r.2

section
variable {γ : Type}
mutual
noncomputable def evalK (T : Tab) : N → List V → (V → M γ) → M γ
  | .lit v, _, k => k v
  | .loc i, σ, k => oB (σ[i]?.bind defO) k
  | .and a b, σ, k => evalK T a σ fun v => bnd (truthyM v) fun t => bM t (evalK T b σ k) (k v)
  | .or a b, σ, k => evalK T a σ fun v => bnd (truthyM v) fun t => bM t (k v) (evalK T b σ k)
  | .not a, σ, k => evalK T a σ fun v => bnd (truthyM v) fun t => k (.bool (!t))
  | .neg a, σ, k => evalK T a σ fun v => oB (intO v) fun i => k (.int (-i))
  | .ite c a b, σ, k => testK T c σ (evalK T a σ k) (evalK T b σ k)
  | .bin op a b, σ, k => evalK T a σ fun x => evalK T b σ fun y => bnd (binV op x y) k
  | .cmp op a b, σ, k => evalK T a σ fun x => evalK T b σ fun y => hB (cmpB op x y) fun r => k (.bool r)
  | .cmp2 o1 o2 a b c, σ, k => evalK T a σ fun x => evalK T b σ fun y => hB (cmpB o1 x y) fun r => bM r (evalK T c σ fun z => hB (cmpB o2 y z) fun r => k (.bool r)) (k (.bool false))
  | .tup es, σ, k => evalKs T es σ fun vs => gd (vs.length ≤ SZ) (k (.tup vs))
  | .list es, σ, k => evalKs T es σ fun vs => gd (vs.length ≤ SZ) (bnd (newL vs) k)
  | .call f args, σ, k => evalKs T args σ fun vs => bnd (T f vs) k
  | .bi b args, σ, k => evalKs T args σ fun vs => bnd (biV b vs) k
  | .meth o m args, σ, k => evalK T o σ fun x => hB (recvK x m) fun f => evalKs T args σ fun vs => bnd (methV T f x m vs) k
  | .attr o f, σ, k => evalK T o σ fun x => bnd (attrV x f) k
  | .idx o i, σ, k => evalK T o σ fun x => evalK T i σ fun y => bnd (idxV x y) k
  | .slc o lo hi, σ, k => evalK T o σ fun x => evalK T lo σ fun a => evalK T hi σ fun b => bnd (slcV x a b) k
  | .comp elt c it, σ, k => bnd (evalE T (.comp elt c it) σ) k
  | _, _, _ => failM
noncomputable def testK (T : Tab) : N → List V → M γ → M γ → M γ
  | .and a b, σ, kt, kf => testK T a σ (testK T b σ kt kf) kf
  | .or a b, σ, kt, kf => testK T a σ kt (testK T b σ kt kf)
  | .not a, σ, kt, kf => testK T a σ kf kt
  | .cmp op a b, σ, kt, kf => evalK T a σ fun x => evalK T b σ fun y => hB (cmpB op x y) fun r => bM r kt kf
  | .cmp2 o1 o2 a b c, σ, kt, kf => evalK T a σ fun x => evalK T b σ fun y => hB (cmpB o1 x y) fun r => bM r (evalK T c σ fun z => hB (cmpB o2 y z) fun r => bM r kt kf) kf
  | .lit v, _, kt, kf => bnd (truthyM v) fun t => bM t kt kf
  | .loc i, σ, kt, kf => oB (σ[i]?.bind defO) fun v => bnd (truthyM v) fun t => bM t kt kf
  | .call f args, σ, kt, kf => evalKs T args σ fun vs => bnd (T f vs) fun v => bnd (truthyM v) fun t => bM t kt kf
  | .meth o m args, σ, kt, kf => evalK T o σ fun x => hB (recvK x m) fun f => evalKs T args σ fun vs => bnd (methV T f x m vs) fun v => bnd (truthyM v) fun t => bM t kt kf
  | _, _, _, _ => failM
noncomputable def evalKs (T : Tab) : N → List V → (List V → M γ) → M γ
  | .nil, _, k => k []
  | .cons e es, σ, k => evalK T e σ fun v => evalKs T es σ fun vs => k (v :: vs)
  | _, _, _ => failM
end
mutual
noncomputable def execK (T : Tab) : N → List V → (List V → M γ) → (List V → M γ) → (V → List V → M γ) → M γ
  | .expr e, σ, kn, _, _ => evalK T e σ fun z' => kn σ
  | .asg i e, σ, kn, _, _ => evalK T e σ fun v => kn (σ.set i v)
  | .asgM is e, σ, kn, _, _ => evalK T e σ fun v => oB (bindT (.inl is) v σ) kn
  | .setA o f e, σ, kn, _, _ => evalK T e σ fun v => evalK T o σ fun x => bnd (setAttrV x f v) fun z' => kn σ
  | .setI o i e, σ, kn, _, _ => evalK T e σ fun v => evalK T o σ fun x => evalK T i σ fun y => bnd (setIdxV x y v) fun z' => kn σ
  | .aug i op e, σ, kn, _, _ => oB (σ[i]?.bind defO) fun old => evalK T e σ fun v => bnd (augV op old v) fun r => kn (σ.set i r)
  | .augA o f op e, σ, kn, _, _ => evalK T o σ fun x => bnd (attrV x f) fun old => evalK T e σ fun v => bnd (augV op old v) fun r => bnd (setAttrV x f r) fun z' => kn σ
  | .augI o i op e, σ, kn, _, _ => evalK T o σ fun x => evalK T i σ fun y => bnd (idxV x y) fun old => evalK T e σ fun v => bnd (augV op old v) fun r => bnd (setIdxV x y r) fun z' => kn σ
  | .sif c a b, σ, kn, kb, kr => testK T c σ (execKs T a σ kn kb kr) (execKs T b σ kn kb kr)
  | .whl c b, σ, kn, kb, kr => bnd (whileN (evalB T c) (execSs T b) FUEL σ) fun r => selR r kn kb kr
  | .for t it b, σ, kn, kb, kr => evalK T it σ fun o => bnd (forN t o (execSs T b) FUEL 0 σ) fun r => selR r kn kb kr
  | .rtn e, σ, _, _, kr => evalK T e σ fun v => kr v σ
  | .brk, σ, _, kb, _ => kb σ
  | .pass, σ, kn, _, _ => kn σ
  | _, _, _, _, _ => failM
noncomputable def execKs (T : Tab) : N → List V → (List V → M γ) → (List V → M γ) → (V → List V → M γ) → M γ
  | .nil, σ, kn, _, _ => kn σ
  | .cons s ss, σ, kn, kb, kr => execK T s σ (fun σ => execKs T ss σ kn kb kr) kb kr
  | _, _, _, _, _ => failM
end
end

section
variable {α β γ δ : Type}
def Le (c d : M α) : Prop := ∀ H p, c H = some p → d H = some p
theorem Le.rfl {c : M α} : Le c c := fun z' z' e => e
theorem Le.of {c d : M α} (h : c = d) : Le c d := h ▸ .rfl
theorem Le.trans {c d e : M α} (h : Le c d) (g : Le d e) : Le c e := fun H p k => g H p (h H p k)
theorem Le.bnd {c c' : M α} {d d' : α → M β} (h : Le c c') (g : ∀ a, Le (d a) (d' a)) : Le (bnd c d) (bnd c' d') := fun H p e => by
  obtain ⟨q, h1, e⟩ := bnd_some e
  unfold Mine.bnd
  rw [h H q h1]
  exact g _ _ _ e
theorem Le.fail {d : M α} : Le failM d := fun z' z' e => nomatch e
theorem Le.bM {t : Bool} {c c' d d' : M α} (h : Le c c') (g : Le d d') : Le (bM t c d) (bM t c' d') := by cases t <;> assumption
theorem Le.oB {o : Option α} {d d' : α → M β} (g : ∀ a, Le (d a) (d' a)) : Le (oB o d) (oB o d') := by
  cases o with
  | none => exact .fail
  | some a => exact g a
theorem Le.hB {o : Hp → Option α} {d d' : α → M β} (g : ∀ a, Le (d a) (d' a)) : Le (hB o d) (hB o d') := fun H p e => by
  obtain ⟨b, h, e⟩ := hB_some e
  unfold Mine.hB
  rw [h]; exact g b H p e
theorem Le.gd {q : Prop} [Decidable q] {c d : M α} (h : Le c d) : Le (gd q c) (gd q d) := fun H p e => by
  obtain ⟨h1, e⟩ := gd_some e
  unfold Mine.gd
  rw [if_pos h1]; exact h H p e
theorem bnd_oB {o : Option α} {d : α → M β} {f : β → M γ} : bnd (oB o d) f = oB o fun a => bnd (d a) f := by cases o <;> rfl
theorem bnd_hB {o : Hp → Option α} {d : α → M β} {f : β → M γ} : bnd (hB o d) f = hB o fun a => bnd (d a) f := by
  funext H; unfold bnd hB; cases o H <;> rfl
theorem bnd_gd {q : Prop} [Decidable q] {c : M α} {f : α → M β} : bnd (gd q c) f = gd q (bnd c f) := by
  funext H; unfold bnd gd; by_cases h : q <;> simp only [h, if_true, if_false]
theorem bnd_bM {t : Bool} {c d : M α} {f : α → M β} : bnd (bM t c d) f = bM t (bnd c f) (bnd d f) := by cases t <;> rfl
theorem bnd_retl {a : α} {f : α → M β} : bnd (ret a) f = f a := rfl
end

theorem truthy_b {b : Bool} : truthyM (.bool b) = ret b := rfl
section
variable {γ : Type} {T : Tab}
theorem loc_eq {σ : List V} {i : Nat} : locV σ i = oB (σ[i]?.bind defO) ret := by
  unfold locV
  cases σ[i]? with
  | none => rfl
  | some v => cases v <;> rfl

theorem again {v : V} {H : Hp} {t : Bool} {H1 : Hp} {d : Bool → M γ} (h : truthyM v H = some (t, H1)) : bnd (truthyM v) d H1 = d t H1 := by
  have h3 : H1 = H := truthyM_some h
  subst h3
  unfold bnd
  rw [h]
theorem and_b {a : M V} {B : M V} {d : Bool → M γ} : Le (bnd (bnd a truthyM) fun t => bM t (bnd (bnd B truthyM) d) (d false)) (bnd (bnd (bnd a fun v => bnd (truthyM v) fun t => bM t B (ret v)) truthyM) d) := fun H p e => by
  obtain ⟨⟨t, H1⟩, h1, e⟩ := bnd_some e
  obtain ⟨⟨v, H2⟩, h2, h1⟩ := bnd_some h1
  simp only [bnd_assoc, bnd_bM, bnd_retl]
  unfold bnd; rw [h2]; dsimp only; rw [h1]; dsimp only
  cases t
  · exact (again h1).trans e
  · exact (congrFun bnd_assoc H1).symm.trans e
theorem or_b {a : M V} {B : M V} {d : Bool → M γ} : Le (bnd (bnd a truthyM) fun t => bM t (d true) (bnd (bnd B truthyM) d)) (bnd (bnd (bnd a fun v => bnd (truthyM v) fun t => bM t (ret v) B) truthyM) d) := fun H p e => by
  obtain ⟨⟨t, H1⟩, h1, e⟩ := bnd_some e
  obtain ⟨⟨v, H2⟩, h2, h1⟩ := bnd_some h1
  simp only [bnd_assoc, bnd_bM, bnd_retl]
  unfold bnd; rw [h2]; dsimp only; rw [h1]; dsimp only
  cases t
  · exact (congrFun bnd_assoc H1).symm.trans e
  · exact (again h1).trans e

mutual
theorem evalK_le : ∀ (e : N) (σ : List V) (k : V → M γ), Le (evalK T e σ k) (bnd (evalE T e σ) k)
  | .lit v, _, k => .rfl
  | .loc i, σ, k => .of (by show _ = bnd (locV σ i) k; rw [loc_eq, bnd_oB]; rfl)
  | .and a b, σ, k => (evalK_le a σ _).trans ((Le.bnd .rfl fun v => Le.bnd .rfl fun t => Le.bM (evalK_le b σ k) .rfl).trans (.of (by
      show _ = bnd (bnd (evalE T a σ) fun v => bnd (truthyM v) fun t => bM t (evalE T b σ) (ret v)) k
      simp only [bnd_assoc, bnd_bM, bnd_retl])))
  | .or a b, σ, k => (evalK_le a σ _).trans ((Le.bnd .rfl fun v => Le.bnd .rfl fun t => Le.bM .rfl (evalK_le b σ k)).trans (.of (by
      show _ = bnd (bnd (evalE T a σ) fun v => bnd (truthyM v) fun t => bM t (ret v) (evalE T b σ)) k
      simp only [bnd_assoc, bnd_bM, bnd_retl])))
  | .not a, σ, k => (evalK_le a σ _).trans (.of (by
      show _ = bnd (bnd (evalE T a σ) fun v => bnd (truthyM v) fun t => ret (.bool (!t))) k
      simp only [bnd_assoc, bnd_retl]))
  | .neg a, σ, k => (evalK_le a σ _).trans (.of (by
      show _ = bnd (bnd (evalE T a σ) fun v => oB (intO v) fun i => ret (.int (-i))) k
      simp only [bnd_assoc, bnd_oB, bnd_retl]))
  | .ite c a b, σ, k => (testK_le c σ _ _).trans ((Le.bnd .rfl fun t => Le.bM (evalK_le a σ k) (evalK_le b σ k)).trans (.of (by
      show _ = bnd (bnd (evalB T c σ) fun t => bM t (evalE T a σ) (evalE T b σ)) k
      simp only [bnd_assoc, bnd_bM])))
  | .bin op a b, σ, k => (evalK_le a σ _).trans ((Le.bnd .rfl fun x => evalK_le b σ _).trans (.of (by
      show _ = bnd (bnd (evalE T a σ) fun x => bnd (evalE T b σ) fun y => binV op x y) k
      simp only [bnd_assoc])))
  | .cmp op a b, σ, k => (evalK_le a σ _).trans ((Le.bnd .rfl fun x => evalK_le b σ _).trans (.of (by
      show _ = bnd (bnd (evalE T a σ) fun x => bnd (evalE T b σ) fun y => hB (cmpB op x y) fun r => ret (.bool r)) k
      simp only [bnd_assoc, bnd_hB, bnd_retl])))
  | .cmp2 o1 o2 a b c, σ, k => (evalK_le a σ _).trans ((Le.bnd .rfl fun x => (evalK_le b σ _).trans (Le.bnd .rfl fun y => Le.hB fun r => Le.bM (evalK_le c σ _) (.of (by rfl)))).trans (.of (by
      show _ = bnd (bnd (evalE T a σ) fun x => bnd (evalE T b σ) fun y => bnd (hB (cmpB o1 x y) fun r => ret (.bool r)) fun r => bnd (truthyM r) fun t => bM t (bnd (evalE T c σ) fun z => hB (cmpB o2 y z) fun r => ret (.bool r)) (ret r)) k
      simp only [bnd_assoc, bnd_hB, bnd_retl, truthy_b, bnd_bM]
      refine congrArg (bnd _) (funext fun x => congrArg (bnd _) (funext fun y => congrArg (hB _) (funext fun r => ?_)))
      cases r <;> rfl)))
  | .tup es, σ, k => (evalKs_le es σ _).trans (.of (by
      show _ = bnd (bnd (evalEs T es σ) fun vs => gd (vs.length ≤ SZ) (ret (.tup vs))) k
      simp only [bnd_assoc, bnd_gd, bnd_retl]))
  | .list es, σ, k => (evalKs_le es σ _).trans (.of (by
      show _ = bnd (bnd (evalEs T es σ) fun vs => gd (vs.length ≤ SZ) (newL vs)) k
      simp only [bnd_assoc, bnd_gd]))
  | .call f args, σ, k => (evalKs_le args σ _).trans (.of (by
      show _ = bnd (bnd (evalEs T args σ) fun vs => T f vs) k
      simp only [bnd_assoc]))
  | .bi b args, σ, k => (evalKs_le args σ _).trans (.of (by
      show _ = bnd (bnd (evalEs T args σ) fun vs => biV b vs) k
      simp only [bnd_assoc]))
  | .meth o m args, σ, k => (evalK_le o σ _).trans ((Le.bnd .rfl fun x => Le.hB fun f => evalKs_le args σ _).trans (.of (by
      show _ = bnd (bnd (evalE T o σ) fun x => hB (recvK x m) fun f => bnd (evalEs T args σ) fun vs => methV T f x m vs) k
      simp only [bnd_assoc, bnd_hB])))
  | .attr o f, σ, k => (evalK_le o σ _).trans (.of (by
      show _ = bnd (bnd (evalE T o σ) fun x => attrV x f) k
      simp only [bnd_assoc]))
  | .idx o i, σ, k => (evalK_le o σ _).trans ((Le.bnd .rfl fun x => evalK_le i σ _).trans (.of (by
      show _ = bnd (bnd (evalE T o σ) fun x => bnd (evalE T i σ) fun y => idxV x y) k
      simp only [bnd_assoc])))
  | .slc o lo hi, σ, k => (evalK_le o σ _).trans ((Le.bnd .rfl fun x => (evalK_le lo σ _).trans (Le.bnd .rfl fun a => evalK_le hi σ _)).trans (.of (by
      show _ = bnd (bnd (evalE T o σ) fun x => bnd (evalE T lo σ) fun a => bnd (evalE T hi σ) fun b => slcV x a b) k
      simp only [bnd_assoc])))
  | .comp elt c it, σ, k => .rfl
  | .bad, _, _ => .fail
  | .nil, _, _ => .fail
  | .cons _ _, _, _ => .fail
  | .expr _, _, _ => .fail
  | .asg _ _, _, _ => .fail
  | .asgM _ _, _, _ => .fail
  | .setA _ _ _, _, _ => .fail
  | .setI _ _ _, _, _ => .fail
  | .aug _ _ _, _, _ => .fail
  | .augA _ _ _ _, _, _ => .fail
  | .augI _ _ _ _, _, _ => .fail
  | .sif _ _ _, _, _ => .fail
  | .whl _ _, _, _ => .fail
  | .for _ _ _, _, _ => .fail
  | .rtn _, _, _ => .fail
  | .brk, _, _ => .fail
  | .pass, _, _ => .fail
theorem testK_le : ∀ (e : N) (σ : List V) (kt kf : M γ), Le (testK T e σ kt kf) (bnd (evalB T e σ) fun t => bM t kt kf)
  | .and a b, σ, kt, kf => (testK_le a σ _ _).trans ((Le.bnd .rfl fun t => Le.bM (testK_le b σ kt kf) .rfl).trans (and_b (d := fun t => bM t kt kf)))
  | .or a b, σ, kt, kf => (testK_le a σ _ _).trans ((Le.bnd .rfl fun t => Le.bM .rfl (testK_le b σ kt kf)).trans (or_b (d := fun t => bM t kt kf)))
  | .not a, σ, kt, kf => (testK_le a σ _ _).trans (.of (by
      show _ = bnd (bnd (bnd (evalE T a σ) fun v => bnd (truthyM v) fun t => ret (.bool (!t))) truthyM) fun t => bM t kt kf
      unfold evalB
      simp only [bnd_assoc, bnd_retl, truthy_b]
      refine congrArg (bnd _) (funext fun v => congrArg (bnd _) (funext fun t => ?_))
      cases t <;> rfl))
  | .cmp op a b, σ, kt, kf => (evalK_le a σ _).trans ((Le.bnd .rfl fun x => evalK_le b σ _).trans (.of (by
      show _ = bnd (bnd (bnd (evalE T a σ) fun x => bnd (evalE T b σ) fun y => hB (cmpB op x y) fun r => ret (.bool r)) truthyM) fun t => bM t kt kf
      simp only [bnd_assoc, bnd_hB, bnd_retl, truthy_b])))
  | .cmp2 o1 o2 a b c, σ, kt, kf => (evalK_le a σ _).trans ((Le.bnd .rfl fun x => (evalK_le b σ _).trans (Le.bnd .rfl fun y => Le.hB fun r => Le.bM (evalK_le c σ _) (.of (by rfl)))).trans (.of (by
      show _ = bnd (bnd (bnd (evalE T a σ) fun x => bnd (evalE T b σ) fun y => bnd (hB (cmpB o1 x y) fun r => ret (.bool r)) fun r => bnd (truthyM r) fun t => bM t (bnd (evalE T c σ) fun z => hB (cmpB o2 y z) fun r => ret (.bool r)) (ret r)) truthyM) fun t => bM t kt kf
      simp only [bnd_assoc, bnd_hB, bnd_retl, truthy_b, bnd_bM]
      refine congrArg (bnd _) (funext fun x => congrArg (bnd _) (funext fun y => congrArg (hB _) (funext fun r => ?_)))
      cases r <;> rfl)))
  | .lit v, σ, kt, kf => .rfl
  | .loc i, σ, kt, kf => .of (by show _ = bnd (bnd (locV σ i) truthyM) _; rw [loc_eq]; simp only [bnd_oB, bnd_retl]; rfl)
  | .call f args, σ, kt, kf => (evalKs_le args σ _).trans (.of (by
      show _ = bnd (bnd (bnd (evalEs T args σ) fun vs => T f vs) truthyM) _
      simp only [bnd_assoc]))
  | .meth o m args, σ, kt, kf => (evalK_le o σ _).trans ((Le.bnd .rfl fun x => Le.hB fun f => evalKs_le args σ _).trans (.of (by
      show _ = bnd (bnd (bnd (evalE T o σ) fun x => hB (recvK x m) fun f => bnd (evalEs T args σ) fun vs => methV T f x m vs) truthyM) _
      simp only [bnd_assoc, bnd_hB])))
  | .neg _, _, _, _ => .fail
  | .ite _ _ _, _, _, _ => .fail
  | .bin _ _ _, _, _, _ => .fail
  | .tup _, _, _, _ => .fail
  | .list _, _, _, _ => .fail
  | .comp _ _ _, _, _, _ => .fail
  | .bi _ _, _, _, _ => .fail
  | .attr _ _, _, _, _ => .fail
  | .idx _ _, _, _, _ => .fail
  | .slc _ _ _, _, _, _ => .fail
  | .bad, _, _, _ => .fail
  | .nil, _, _, _ => .fail
  | .cons _ _, _, _, _ => .fail
  | .expr _, _, _, _ => .fail
  | .asg _ _, _, _, _ => .fail
  | .asgM _ _, _, _, _ => .fail
  | .setA _ _ _, _, _, _ => .fail
  | .setI _ _ _, _, _, _ => .fail
  | .aug _ _ _, _, _, _ => .fail
  | .augA _ _ _ _, _, _, _ => .fail
  | .augI _ _ _ _, _, _, _ => .fail
  | .sif _ _ _, _, _, _ => .fail
  | .whl _ _, _, _, _ => .fail
  | .for _ _ _, _, _, _ => .fail
  | .rtn _, _, _, _ => .fail
  | .brk, _, _, _ => .fail
  | .pass, _, _, _ => .fail
theorem evalKs_le : ∀ (e : N) (σ : List V) (k : List V → M γ), Le (evalKs T e σ k) (bnd (evalEs T e σ) k)
  | .nil, _, _ => .rfl
  | .cons e es, σ, k => (evalK_le e σ _).trans ((Le.bnd .rfl fun v => evalKs_le es σ _).trans (.of (by
      show _ = bnd (bnd (evalE T e σ) fun v => bnd (evalEs T es σ) fun vs => ret (v :: vs)) k
      simp only [bnd_assoc, bnd_retl])))
  | .bad, _, _ => .fail
  | .lit _, _, _ => .fail
  | .loc _, _, _ => .fail
  | .and _ _, _, _ => .fail
  | .or _ _, _, _ => .fail
  | .not _, _, _ => .fail
  | .neg _, _, _ => .fail
  | .ite _ _ _, _, _ => .fail
  | .bin _ _ _, _, _ => .fail
  | .cmp _ _ _, _, _ => .fail
  | .cmp2 _ _ _ _ _, _, _ => .fail
  | .tup _, _, _ => .fail
  | .list _, _, _ => .fail
  | .comp _ _ _, _, _ => .fail
  | .call _ _, _, _ => .fail
  | .bi _ _, _, _ => .fail
  | .meth _ _ _, _, _ => .fail
  | .attr _ _, _, _ => .fail
  | .idx _ _, _, _ => .fail
  | .slc _ _ _, _, _ => .fail
  | .expr _, _, _ => .fail
  | .asg _ _, _, _ => .fail
  | .asgM _ _, _, _ => .fail
  | .setA _ _ _, _, _ => .fail
  | .setI _ _ _, _, _ => .fail
  | .aug _ _ _, _, _ => .fail
  | .augA _ _ _ _, _, _ => .fail
  | .augI _ _ _ _, _, _ => .fail
  | .sif _ _ _, _, _ => .fail
  | .whl _ _, _, _ => .fail
  | .for _ _ _, _, _ => .fail
  | .rtn _, _, _ => .fail
  | .brk, _, _ => .fail
  | .pass, _, _ => .fail
end

theorem bnd_sel {α : Type} {c : M α} {f : α → Ms} {kn kb : List V → M γ} {kr : V → List V → M γ} : bnd (bnd c f) (fun r => selR r kn kb kr) = bnd c fun a => bnd (f a) fun r => selR r kn kb kr := bnd_assoc
theorem sel_next {σ : List V} {kn kb : List V → M γ} {kr : V → List V → M γ} : (bnd (ret (Fl.next, σ)) fun r => selR r kn kb kr) = kn σ := rfl
mutual
theorem execK_le : ∀ (s : N) (σ : List V) (kn kb : List V → M γ) (kr : V → List V → M γ), Le (execK T s σ kn kb kr) (bnd (execS T s σ) fun r => selR r kn kb kr)
  | .expr e, σ, kn, kb, kr => (evalK_le e σ _).trans (.of (by
      show _ = bnd (bnd (evalE T e σ) fun z' => ret (Fl.next, σ)) _
      simp only [bnd_assoc, sel_next]))
  | .asg i e, σ, kn, kb, kr => (evalK_le e σ _).trans (.of (by
      show _ = bnd (bnd (evalE T e σ) fun v => ret (Fl.next, σ.set i v)) _
      simp only [bnd_assoc, sel_next]))
  | .asgM is e, σ, kn, kb, kr => (evalK_le e σ _).trans (.of (by
      show _ = bnd (bnd (evalE T e σ) fun v => oB (bindT (.inl is) v σ) fun σ1 => ret (Fl.next, σ1)) _
      simp only [bnd_assoc, bnd_oB, sel_next]))
  | .setA o f e, σ, kn, kb, kr => (evalK_le e σ _).trans ((Le.bnd .rfl fun v => evalK_le o σ _).trans (.of (by
      show _ = bnd (bnd (evalE T e σ) fun v => bnd (evalE T o σ) fun x => bnd (setAttrV x f v) fun z' => ret (Fl.next, σ)) _
      simp only [bnd_assoc, sel_next])))
  | .setI o i e, σ, kn, kb, kr => (evalK_le e σ _).trans ((Le.bnd .rfl fun v => (evalK_le o σ _).trans (Le.bnd .rfl fun x => evalK_le i σ _)).trans (.of (by
      show _ = bnd (bnd (evalE T e σ) fun v => bnd (evalE T o σ) fun x => bnd (evalE T i σ) fun y => bnd (setIdxV x y v) fun z' => ret (Fl.next, σ)) _
      simp only [bnd_assoc, sel_next])))
  | .aug i op e, σ, kn, kb, kr => (Le.oB fun old => evalK_le e σ _).trans (.of (by
      show _ = bnd (bnd (locV σ i) fun old => bnd (evalE T e σ) fun v => bnd (augV op old v) fun r => ret (Fl.next, σ.set i r)) _
      rw [loc_eq]
      simp only [bnd_assoc, bnd_oB, bnd_retl]
      rfl))
  | .augA o f op e, σ, kn, kb, kr => (evalK_le o σ _).trans ((Le.bnd .rfl fun x => Le.bnd .rfl fun old => evalK_le e σ _).trans (.of (by
      show _ = bnd (bnd (evalE T o σ) fun x => bnd (attrV x f) fun old => bnd (evalE T e σ) fun v => bnd (augV op old v) fun r => bnd (setAttrV x f r) fun z' => ret (Fl.next, σ)) _
      simp only [bnd_assoc, sel_next])))
  | .augI o i op e, σ, kn, kb, kr => (evalK_le o σ _).trans ((Le.bnd .rfl fun x => (evalK_le i σ _).trans (Le.bnd .rfl fun y => Le.bnd .rfl fun old => evalK_le e σ _)).trans (.of (by
      show _ = bnd (bnd (evalE T o σ) fun x => bnd (evalE T i σ) fun y => bnd (idxV x y) fun old => bnd (evalE T e σ) fun v => bnd (augV op old v) fun r => bnd (setIdxV x y r) fun z' => ret (Fl.next, σ)) _
      simp only [bnd_assoc, sel_next])))
  | .sif c a b, σ, kn, kb, kr => (testK_le c σ _ _).trans ((Le.bnd .rfl fun t => Le.bM (execKs_le a σ kn kb kr) (execKs_le b σ kn kb kr)).trans (.of (by
      show _ = bnd (bnd (evalB T c σ) fun t => bM t (execSs T a σ) (execSs T b σ)) _
      simp only [bnd_assoc, bnd_bM])))
  | .whl c b, σ, kn, kb, kr => .rfl
  | .for t it b, σ, kn, kb, kr => (evalK_le it σ _).trans (.of (by
      show _ = bnd (bnd (evalE T it σ) fun o => forN t o (execSs T b) FUEL 0 σ) _
      simp only [bnd_assoc]))
  | .rtn e, σ, kn, kb, kr => (evalK_le e σ _).trans (.of (by
      show _ = bnd (bnd (evalE T e σ) fun v => ret (Fl.rtn v, σ)) _
      simp only [bnd_assoc]
      rfl))
  | .brk, _, _, _, _ => .rfl
  | .pass, _, _, _, _ => .rfl
  | .bad, _, _, _, _ => .fail
  | .lit _, _, _, _, _ => .fail
  | .loc _, _, _, _, _ => .fail
  | .and _ _, _, _, _, _ => .fail
  | .or _ _, _, _, _, _ => .fail
  | .not _, _, _, _, _ => .fail
  | .neg _, _, _, _, _ => .fail
  | .ite _ _ _, _, _, _, _ => .fail
  | .bin _ _ _, _, _, _, _ => .fail
  | .cmp _ _ _, _, _, _, _ => .fail
  | .cmp2 _ _ _ _ _, _, _, _, _ => .fail
  | .tup _, _, _, _, _ => .fail
  | .list _, _, _, _, _ => .fail
  | .comp _ _ _, _, _, _, _ => .fail
  | .call _ _, _, _, _, _ => .fail
  | .bi _ _, _, _, _, _ => .fail
  | .meth _ _ _, _, _, _, _ => .fail
  | .attr _ _, _, _, _, _ => .fail
  | .idx _ _, _, _, _, _ => .fail
  | .slc _ _ _, _, _, _, _ => .fail
  | .nil, _, _, _, _ => .fail
  | .cons _ _, _, _, _, _ => .fail
theorem execKs_le : ∀ (s : N) (σ : List V) (kn kb : List V → M γ) (kr : V → List V → M γ), Le (execKs T s σ kn kb kr) (bnd (execSs T s σ) fun r => selR r kn kb kr)
  | .nil, σ, kn, kb, kr => .rfl
  | .cons s ss, σ, kn, kb, kr => (execK_le s σ _ kb kr).trans ((Le.bnd .rfl fun r => (show Le (selR r (fun σ => execKs T ss σ kn kb kr) kb kr) (bnd (andThen r (execSs T ss)) fun r => selR r kn kb kr) from by
      obtain ⟨f, σ1⟩ := r
      cases f
      · exact execKs_le ss σ1 kn kb kr
      · exact .rfl
      · exact .rfl)).trans (.of (by
      show _ = bnd (bnd (execS T s σ) fun r => andThen r (execSs T ss)) _
      rw [bnd_assoc])))
  | .bad, _, _, _, _ => .fail
  | .lit _, _, _, _, _ => .fail
  | .loc _, _, _, _, _ => .fail
  | .and _ _, _, _, _, _ => .fail
  | .or _ _, _, _, _, _ => .fail
  | .not _, _, _, _, _ => .fail
  | .neg _, _, _, _, _ => .fail
  | .ite _ _ _, _, _, _, _ => .fail
  | .bin _ _ _, _, _, _, _ => .fail
  | .cmp _ _ _, _, _, _, _ => .fail
  | .cmp2 _ _ _ _ _, _, _, _, _ => .fail
  | .tup _, _, _, _, _ => .fail
  | .list _, _, _, _, _ => .fail
  | .comp _ _ _, _, _, _, _ => .fail
  | .call _ _, _, _, _, _ => .fail
  | .bi _ _, _, _, _, _ => .fail
  | .meth _ _ _, _, _, _, _ => .fail
  | .attr _ _, _, _, _, _ => .fail
  | .idx _ _, _, _, _, _ => .fail
  | .slc _ _ _, _, _, _, _ => .fail
  | .expr _, _, _, _, _ => .fail
  | .asg _ _, _, _, _, _ => .fail
  | .asgM _ _, _, _, _, _ => .fail
  | .setA _ _ _, _, _, _, _ => .fail
  | .setI _ _ _, _, _, _, _ => .fail
  | .aug _ _ _, _, _, _, _ => .fail
  | .augA _ _ _ _, _, _, _, _ => .fail
  | .augI _ _ _ _, _, _, _, _ => .fail
  | .sif _ _ _, _, _, _, _ => .fail
  | .whl _ _, _, _, _, _ => .fail
  | .for _ _ _, _, _, _, _ => .fail
  | .rtn _, _, _, _, _ => .fail
  | .brk, _, _, _, _ => .fail
  | .pass, _, _, _, _ => .fail
end

noncomputable def runK (T : Tab) (slots npar : Nat) (body : N) : Fn := fun args =>
  gd (args.length = npar) (execKs T body (args ++ List.replicate (slots - npar) .undef) (fun z' => ret .none) (fun z' => failM) (fun v z' => ret v))
theorem runK_le {slots npar : Nat} {body : N} {args : List V} : Le (runK T slots npar body args) (runF T slots npar body args) :=
  Le.gd ((execKs_le body _ _ _ _).trans (Le.bnd .rfl fun r => by
    obtain ⟨f, σ1⟩ := r
    cases f <;> exact .rfl))
theorem while_le {c b : N} {n : Nat} {σ : List V} : Le (testK T c σ (execKs T b σ (whileN (evalB T c) (execSs T b) n) (fun σ => ret (.next, σ)) fun v σ => ret (.rtn v, σ)) (ret (.next, σ))) (whileN (evalB T c) (execSs T b) (n + 1) σ) :=
  (testK_le c σ _ _).trans (Le.bnd .rfl fun t => Le.bM ((execKs_le b σ _ _ _).trans (Le.bnd .rfl fun r => by
    obtain ⟨f, σ1⟩ := r
    cases f <;> exact .rfl)) .rfl)
noncomputable def forK (T : Tab) (t : List Nat ⊕ Nat) (o : V) (b : N) (k n : Nat) (σ : List V) : Ms := hB (itemAt o n) fun r => match r with
  | none => ret (.next, σ)
  | some v => oB (bindT t v σ) fun σ1 => execKs T b σ1 (forN t o (execSs T b) k (n + 1)) (fun σ => ret (.next, σ)) fun v σ => ret (.rtn v, σ)
theorem for_le {t : List Nat ⊕ Nat} {o : V} {b : N} {k n : Nat} {σ : List V} : Le (forK T t o b k n σ) (forN t o (execSs T b) (k + 1) n σ) :=
  Le.hB fun r => by
    cases r with
    | none => exact .rfl
    | some v => exact Le.oB fun σ1 => (execKs_le b σ1 _ _ _).trans (Le.bnd .rfl fun r => by
        obtain ⟨f, σ2⟩ := r
        cases f <;> exact .rfl)
noncomputable def compK (T : Tab) (elt c : N) (acc : V) (o : V) (k n : Nat) : M Unit := hB (itemAt o n) fun r => match r with
  | none => ret ()
  | some v => testK T c [v] (evalK T elt [v] fun x => bnd (bmeth acc 0 [x]) fun z' => compN (compF T elt c acc) o k (n + 1)) (compN (compF T elt c acc) o k (n + 1))
theorem comp_le {elt c : N} {acc o : V} {k n : Nat} : Le (compK T elt c acc o k n) (compN (compF T elt c acc) o (k + 1) n) :=
  Le.hB fun r => by
    cases r with
    | none => exact .rfl
    | some v =>
      refine (testK_le c [v] _ _).trans ((Le.bnd .rfl fun t => Le.bM (evalK_le elt [v] _) .rfl).trans (.of ?_))
      show _ = bnd (bnd (evalB T c [v]) fun t => bM t (bnd (evalE T elt [v]) fun x => bnd (bmeth acc 0 [x]) fun z' => ret ()) (ret ())) fun z' => compN (compF T elt c acc) o k (n + 1)
      simp only [bnd_assoc, bnd_bM, bnd_retl]
theorem bnd_of {α β : Type} {c : M α} {d : α → M β} {H : Hp} {a : α} {H' : Hp} (h : c H = some (a, H')) : bnd c d H = d a H' := by
  unfold bnd; rw [h]
end
end

section
noncomputable def s_LAW64 : List Nat := [nat_lit 97, nat_lit 98, nat_lit 99, nat_lit 100, nat_lit 101, nat_lit 102, nat_lit 103, nat_lit 104, nat_lit 105, nat_lit 106, nat_lit 107, nat_lit 108, nat_lit 109, nat_lit 110, nat_lit 111, nat_lit 112, nat_lit 113, nat_lit 114, nat_lit 115, nat_lit 116, nat_lit 117, nat_lit 118, nat_lit 119, nat_lit 120, nat_lit 121, nat_lit 122, nat_lit 65, nat_lit 66, nat_lit 67, nat_lit 68, nat_lit 69, nat_lit 70, nat_lit 71, nat_lit 72, nat_lit 73, nat_lit 74, nat_lit 75, nat_lit 76, nat_lit 77, nat_lit 78, nat_lit 79, nat_lit 80, nat_lit 81, nat_lit 82, nat_lit 83, nat_lit 84, nat_lit 85, nat_lit 86, nat_lit 87, nat_lit 88, nat_lit 89, nat_lit 90, nat_lit 95, nat_lit 36, nat_lit 48, nat_lit 49, nat_lit 50, nat_lit 51, nat_lit 52, nat_lit 53, nat_lit 54, nat_lit 55, nat_lit 56, nat_lit 57]
noncomputable def s_HEX22 : List Nat := [nat_lit 48, nat_lit 49, nat_lit 50, nat_lit 51, nat_lit 52, nat_lit 53, nat_lit 54, nat_lit 55, nat_lit 56, nat_lit 57, nat_lit 97, nat_lit 98, nat_lit 99, nat_lit 100, nat_lit 101, nat_lit 102, nat_lit 65, nat_lit 66, nat_lit 67, nat_lit 68, nat_lit 69, nat_lit 70]
noncomputable def n_escape_letter_B1 : N := (.cons (.rtn (.bin .Add (.bin .Add (.lit (.str [nat_lit 92, nat_lit 120])) (.idx (.lit (.str s_HEX_LETTERS)) (.bin .FloorDiv (.loc 1) (.lit (.int (.ofNat 16)))))) (.idx (.lit (.str s_HEX_LETTERS)) (.bin .Mod (.loc 1) (.lit (.int (.ofNat 16))))))) .nil)
noncomputable def n_escape_letter : N := (.cons (.sif (.cmp .In (.loc 0) (.lit d_ESCAPED)) (.cons (.rtn (.idx (.lit d_ESCAPED) (.loc 0))) .nil) .nil) (.cons (.asg 1 (.bi .ord (.cons (.loc 0) .nil))) (.cons (.sif (.cmp .Lt (.loc 1) (.lit (.int (.ofNat 32)))) n_escape_letter_B1 .nil) (.cons (.rtn (.loc 0)) .nil))))
noncomputable def n_quote_B1 : N := (.cons (.expr (.meth (.loc 1) 0 (.cons (.lit (.str [nat_lit 92, nat_lit 34])) .nil))) .nil)
noncomputable def n_quote_B2 : N := (.cons (.expr (.meth (.loc 1) 0 (.cons (.call 29 (.cons (.loc 2) .nil)) .nil))) .nil)
noncomputable def n_quote_L3b : N := (.cons (.sif (.cmp .Eq (.loc 2) (.lit (.str [nat_lit 34]))) n_quote_B1 n_quote_B2) .nil)
noncomputable def n_quote_T4 : N := (.cons (.expr (.meth (.loc 1) 0 (.cons (.lit (.str [nat_lit 34])) .nil))) (.cons (.rtn (.meth (.lit (.str [])) 3 (.cons (.loc 1) .nil))) .nil))
noncomputable def n_quote : N := (.cons (.asg 1 (.list (.cons (.lit (.str [nat_lit 34])) .nil))) (.cons (.for (.inr 2) (.loc 0) n_quote_L3b) n_quote_T4))
noncomputable def n_template_text_B1 : N := (.cons (.expr (.meth (.loc 1) 0 (.cons (.lit (.str [nat_lit 92, nat_lit 120, nat_lit 54, nat_lit 48])) .nil))) .nil)
noncomputable def n_template_text_B2 : N := (.cons (.expr (.meth (.loc 1) 0 (.cons (.lit (.str [nat_lit 92, nat_lit 120, nat_lit 50, nat_lit 52])) .nil))) .nil)
noncomputable def n_template_text_B3 : N := (.cons (.expr (.meth (.loc 1) 0 (.cons (.call 29 (.cons (.loc 3) .nil)) .nil))) .nil)
noncomputable def n_template_text_B4 : N := (.cons (.sif (.and (.cmp .Eq (.loc 3) (.lit (.str [nat_lit 36]))) (.cmp .Eq (.slc (.loc 0) (.bin .Add (.loc 2) (.lit (.int (.ofNat 1)))) (.bin .Add (.loc 2) (.lit (.int (.ofNat 2))))) (.lit (.str [nat_lit 123])))) n_template_text_B2 n_template_text_B3) .nil)
noncomputable def n_template_text_L5b : N := (.cons (.asg 3 (.idx (.loc 0) (.loc 2))) (.cons (.sif (.cmp .Eq (.loc 3) (.lit (.str [nat_lit 96]))) n_template_text_B1 n_template_text_B4) .nil))
noncomputable def n_template_text_T6 : N := (.cons (.rtn (.meth (.lit (.str [])) 3 (.cons (.loc 1) .nil))) .nil)
noncomputable def n_template_text : N := (.cons (.asg 1 (.list .nil)) (.cons (.for (.inr 2) (.bi .rng (.cons (.bi .len (.cons (.loc 0) .nil)) .nil)) n_template_text_L5b) n_template_text_T6))
noncomputable def n_is_word_letter : N := (.cons (.rtn (.or (.cmp .In (.loc 0) (.lit (.str s_NAME_LETTERS))) (.cmp .In (.loc 0) (.lit (.str s_DIGIT_LETTERS))))) .nil)
noncomputable def n_stands_bare_L1b : N := (.cons (.sif (.not (.call 50 (.cons (.loc 1) .nil))) (.cons (.rtn (.lit (.bool .false))) .nil) .nil) .nil)
noncomputable def n_stands_bare_T2 : N := (.cons (.rtn (.lit (.bool .true))) .nil)
noncomputable def n_stands_bare : N := (.cons (.sif (.or (.cmp .Eq (.loc 0) (.lit (.str []))) (.cmp .In (.idx (.loc 0) (.lit (.int (.ofNat 0)))) (.lit (.str s_DIGIT_LETTERS)))) (.cons (.rtn (.lit (.bool .false))) .nil) .nil) (.cons (.for (.inr 1) (.loc 0) n_stands_bare_L1b) n_stands_bare_T2))
noncomputable def n_digits_bare_L1b : N := (.cons (.sif (.cmp .NotIn (.loc 1) (.lit (.str s_DIGIT_LETTERS))) (.cons (.rtn (.lit (.bool .false))) .nil) .nil) .nil)
noncomputable def n_digits_bare_T2 : N := (.cons (.rtn (.lit (.bool .true))) .nil)
noncomputable def n_digits_bare : N := (.cons (.sif (.or (.cmp .Eq (.loc 0) (.lit (.str []))) (.or (.cmp .Gt (.bi .len (.cons (.loc 0) .nil)) (.lit (.int (.ofNat 15)))) (.and (.cmp .Eq (.idx (.loc 0) (.lit (.int (.ofNat 0)))) (.lit (.str [nat_lit 48]))) (.cmp .NotEq (.loc 0) (.lit (.str [nat_lit 48])))))) (.cons (.rtn (.lit (.bool .false))) .nil) .nil) (.cons (.for (.inr 1) (.loc 0) n_digits_bare_L1b) n_digits_bare_T2))
noncomputable def n_prop_key : N := (.cons (.sif (.or (.call 57 (.cons (.loc 0) .nil)) (.call 64 (.cons (.loc 0) .nil))) (.cons (.rtn (.loc 0)) .nil) .nil) (.cons (.rtn (.call 36 (.cons (.loc 0) .nil))) .nil))
noncomputable def n_peek : N := (.cons (.sif (.cmp .Lt (.loc 1) (.bi .len (.cons (.loc 0) .nil))) (.cons (.rtn (.idx (.loc 0) (.loc 1))) .nil) .nil) (.cons (.rtn (.lit (.str [nat_lit 0]))) .nil))
noncomputable def n_is_line_end : N := (.cons (.rtn (.or (.cmp .Eq (.loc 0) (.lit (.str [nat_lit 10]))) (.cmp .Eq (.loc 0) (.lit (.str [nat_lit 13]))))) .nil)
noncomputable def n_is_wide_line_end : N := (.cons (.rtn (.or (.call 255 (.cons (.loc 0) .nil)) (.or (.cmp .Eq (.loc 0) (.lit (.str [nat_lit 8232]))) (.cmp .Eq (.loc 0) (.lit (.str [nat_lit 8233])))))) .nil)
noncomputable def n_scanner_is_far : N := (.cons (.rtn (.or (.cmp2 .LtE .LtE (.lit (.int (.ofNat 55296))) (.loc 0) (.lit (.int (.ofNat 57343)))) (.cmp .Gt (.loc 0) (.lit (.int (.ofNat 65535)))))) .nil)
noncomputable def n_is_digit : N := (.cons (.rtn (.cmp2 .LtE .LtE (.lit (.str [nat_lit 48])) (.loc 0) (.lit (.str [nat_lit 57])))) .nil)
noncomputable def n_is_name_start : N := (.cons (.sif (.or (.cmp2 .LtE .LtE (.lit (.str [nat_lit 97])) (.loc 0) (.lit (.str [nat_lit 122]))) (.cmp2 .LtE .LtE (.lit (.str [nat_lit 65])) (.loc 0) (.lit (.str [nat_lit 90])))) (.cons (.rtn (.lit (.bool .true))) .nil) .nil) (.cons (.rtn (.or (.cmp .Eq (.loc 0) (.lit (.str [nat_lit 95]))) (.cmp .Eq (.loc 0) (.lit (.str [nat_lit 36]))))) .nil))
noncomputable def n_is_name_part : N := (.cons (.rtn (.or (.call 283 (.cons (.loc 0) .nil)) (.call 276 (.cons (.loc 0) .nil)))) .nil)
noncomputable def n_is_reserved : N := (.cons (.rtn (.cmp .In (.loc 0) (.lit d_RESERVED))) .nil)
noncomputable def n_digit_value_B1 : N := (.cons (.rtn (.bin .Sub (.bi .ord (.cons (.loc 0) .nil)) (.lit (.int (.ofNat 48))))) .nil)
noncomputable def n_digit_value_B2 : N := (.cons (.rtn (.bin .Sub (.bi .ord (.cons (.loc 0) .nil)) (.lit (.int (.ofNat 87))))) .nil)
noncomputable def n_digit_value_B3 : N := (.cons (.rtn (.bin .Sub (.bi .ord (.cons (.loc 0) .nil)) (.lit (.int (.ofNat 55))))) .nil)
noncomputable def n_digit_value : N := (.cons (.sif (.cmp2 .LtE .LtE (.lit (.str [nat_lit 48])) (.loc 0) (.lit (.str [nat_lit 57]))) n_digit_value_B1 .nil) (.cons (.sif (.cmp2 .LtE .LtE (.lit (.str [nat_lit 97])) (.loc 0) (.lit (.str [nat_lit 102]))) n_digit_value_B2 .nil) (.cons (.sif (.cmp2 .LtE .LtE (.lit (.str [nat_lit 65])) (.loc 0) (.lit (.str [nat_lit 70]))) n_digit_value_B3 .nil) (.cons (.rtn (.lit (.int (.ofNat 99)))) .nil))))
noncomputable def n_skip_blank_B1 : N := (.cons (.asg 2 (.lit (.bool .true))) (.cons (.aug 1 .Add (.lit (.int (.ofNat 1)))) .nil))
noncomputable def n_skip_blank_B2 : N := (.cons (.rtn (.tup (.cons (.loc 1) (.cons (.loc 2) (.cons (.lit (.bool .false)) .nil))))) .nil)
noncomputable def n_skip_blank_B3 : N := (.cons (.asgM [nat_lit 1, nat_lit 4, nat_lit 5] .bad) (.cons (.asg 2 (.or (.loc 2) (.loc 4))) (.cons (.sif (.not (.loc 5)) n_skip_blank_B2 .nil) .nil)))
noncomputable def n_skip_blank_B4 : N := (.cons (.sif (.and (.cmp .Eq (.loc 3) (.lit (.str [nat_lit 47]))) (.cmp .Eq (.call 248 (.cons (.loc 0) (.cons (.bin .Add (.loc 1) (.lit (.int (.ofNat 1)))) .nil))) (.lit (.str [nat_lit 42])))) n_skip_blank_B3 (.cons .brk .nil)) .nil)
noncomputable def n_skip_blank_B5 : N := (.cons (.sif (.and (.cmp .Eq (.loc 3) (.lit (.str [nat_lit 47]))) (.cmp .Eq (.call 248 (.cons (.loc 0) (.cons (.bin .Add (.loc 1) (.lit (.int (.ofNat 1)))) .nil))) (.lit (.str [nat_lit 47])))) (.cons (.asg 1 .bad) .nil) n_skip_blank_B4) .nil)
noncomputable def n_skip_blank_B6 : N := (.cons (.sif (.or (.cmp .Eq (.loc 3) (.lit (.str [nat_lit 32]))) (.cmp .Eq (.loc 3) (.lit (.str [nat_lit 9])))) (.cons (.aug 1 .Add (.lit (.int (.ofNat 1)))) .nil) n_skip_blank_B5) .nil)
noncomputable def n_skip_blank_L7c : N := (.cmp .Lt (.loc 1) (.bi .len (.cons (.loc 0) .nil)))
noncomputable def n_skip_blank_L7b : N := (.cons (.asg 3 (.idx (.loc 0) (.loc 1))) (.cons (.sif (.call 255 (.cons (.loc 3) .nil)) n_skip_blank_B1 n_skip_blank_B6) .nil))
noncomputable def n_skip_blank_T8 : N := (.cons (.rtn (.tup (.cons (.loc 1) (.cons (.loc 2) (.cons (.lit (.bool .true)) .nil))))) .nil)
noncomputable def n_skip_blank : N := (.cons (.asg 2 (.lit (.bool .false))) (.cons (.whl n_skip_blank_L7c n_skip_blank_L7b) n_skip_blank_T8))
noncomputable def n_scanner_base_at_E1 : N := (.call 248 (.cons (.loc 0) (.cons (.bin .Add (.loc 1) (.lit (.int (.ofNat 1)))) .nil)))
noncomputable def n_scanner_base_at : N := (.cons (.sif (.cmp .NotEq (.idx (.loc 0) (.loc 1)) (.lit (.str [nat_lit 48]))) (.cons (.rtn (.lit (.int (.ofNat 10)))) .nil) .nil) (.cons (.asg 2 n_scanner_base_at_E1) (.cons (.sif (.or (.cmp .Eq (.loc 2) (.lit (.str [nat_lit 120]))) (.cmp .Eq (.loc 2) (.lit (.str [nat_lit 88])))) (.cons (.rtn (.lit (.int (.ofNat 16)))) .nil) .nil) (.cons (.sif (.or (.cmp .Eq (.loc 2) (.lit (.str [nat_lit 111]))) (.cmp .Eq (.loc 2) (.lit (.str [nat_lit 79])))) (.cons (.rtn (.lit (.int (.ofNat 8)))) .nil) .nil) (.cons (.sif (.or (.cmp .Eq (.loc 2) (.lit (.str [nat_lit 98]))) (.cmp .Eq (.loc 2) (.lit (.str [nat_lit 66])))) (.cons (.rtn (.lit (.int (.ofNat 2)))) .nil) .nil) (.cons (.rtn (.lit (.int (.ofNat 10)))) .nil))))))
noncomputable def n_read_digits_E1 : N := (.and (.loc 5) (.and (.cmp .Gt (.loc 4) (.lit (.int (.ofNat 0)))) (.not (.loc 6))))
noncomputable def n_read_digits_E2 : N := (.bin .Add (.bin .Mult (.loc 3) (.loc 2)) (.loc 8))
noncomputable def n_read_digits_B3 : N := (.cons (.asg 8 (.call 304 (.cons (.loc 7) .nil))) (.cons (.sif (.cmp .GtE (.loc 8) (.loc 2)) (.cons .brk .nil) .nil) (.cons (.asg 3 n_read_digits_E2) (.cons (.aug 4 .Add (.lit (.int (.ofNat 1)))) (.cons (.asg 6 (.lit (.bool .false))) .nil)))))
noncomputable def n_read_digits_L4c : N := (.cmp .Lt (.loc 1) (.bi .len (.cons (.loc 0) .nil)))
noncomputable def n_read_digits_L4b : N := (.cons (.asg 7 (.idx (.loc 0) (.loc 1))) (.cons (.sif (.cmp .Eq (.loc 7) (.lit (.str [nat_lit 95]))) (.cons (.asg 5 n_read_digits_E1) (.cons (.asg 6 (.lit (.bool .true))) .nil)) n_read_digits_B3) (.cons (.aug 1 .Add (.lit (.int (.ofNat 1)))) .nil)))
noncomputable def n_read_digits_T5 : N := (.cons (.rtn (.tup (.cons (.loc 3) (.cons (.loc 1) (.cons (.and (.loc 5) (.and (.cmp .Gt (.loc 4) (.lit (.int (.ofNat 0)))) (.not (.loc 6)))) .nil))))) .nil)
noncomputable def n_read_digits : N := (.cons (.asg 3 (.lit (.int (.ofNat 0)))) (.cons (.asg 4 (.lit (.int (.ofNat 0)))) (.cons (.asg 5 (.lit (.bool .true))) (.cons (.asg 6 (.lit (.bool .false))) (.cons (.whl n_read_digits_L4c n_read_digits_L4b) n_read_digits_T5)))))
noncomputable def n_skip_number_tail_L1c : N := (.or (.call 290 (.cons (.call 248 (.cons (.loc 0) (.cons (.loc 1) .nil))) .nil)) (.cmp .Eq (.call 248 (.cons (.loc 0) (.cons (.loc 1) .nil))) (.lit (.str [nat_lit 46]))))
noncomputable def n_skip_number_tail_L1b : N := (.cons (.aug 1 .Add (.lit (.int (.ofNat 1)))) .nil)
noncomputable def n_skip_number_tail_T2 : N := (.cons (.rtn (.loc 1)) .nil)
noncomputable def n_skip_number_tail : N := (.cons (.whl n_skip_number_tail_L1c n_skip_number_tail_L1b) n_skip_number_tail_T2)
noncomputable def n_read_number_E1 : N := (.call 332 (.cons (.loc 0) (.cons (.loc 1) .nil)))
noncomputable def n_read_number_B2 : N := (.cons (.asg 3 (.bin .Add (.loc 1) (.lit (.int (.ofNat 2))))) .nil)
noncomputable def n_read_number_E3 : N := (.call 339 (.cons (.loc 0) (.cons (.loc 3) (.cons (.loc 2) .nil))))
noncomputable def n_read_number_B4 : N := (.cons (.asg 4 (.lit (.int (.ofNat 0)))) (.cons (.asg 6 (.lit (.bool .false))) .nil))
noncomputable def n_read_number_E5 : N := (.call 346 (.cons (.loc 0) (.cons (.loc 5) .nil)))
noncomputable def n_read_number : N := (.cons (.asg 2 n_read_number_E1) (.cons (.asg 3 (.loc 1)) (.cons (.sif (.cmp .NotEq (.loc 2) (.lit (.int (.ofNat 10)))) n_read_number_B2 .nil) (.cons (.asgM [nat_lit 4, nat_lit 5, nat_lit 6] n_read_number_E3) (.cons (.sif (.and (.cmp .Eq (.loc 2) (.lit (.int (.ofNat 10)))) (.and (.cmp .Eq (.idx (.loc 0) (.loc 1)) (.lit (.str [nat_lit 48]))) (.cmp .Gt (.bin .Sub (.loc 5) (.loc 1)) (.lit (.int (.ofNat 1)))))) (.cons (.asg 6 (.lit (.bool .false))) .nil) .nil) (.cons (.sif (.cmp .Gt (.loc 4) (.lit (.int (.ofNat 9007199254740991)))) n_read_number_B4 .nil) (.cons (.asg 7 n_read_number_E5) (.cons (.sif (.cmp .Gt (.loc 7) (.loc 5)) (.cons (.asg 6 (.lit (.bool .false))) .nil) .nil) (.cons (.rtn (.tup (.cons (.loc 4) (.cons (.loc 7) (.cons (.loc 6) .nil))))) .nil)))))))))
noncomputable def n_read_hex_escape_E1 : N := (.call 304 (.cons (.call 248 (.cons (.loc 0) (.cons (.loc 4) .nil))) .nil))
noncomputable def n_read_hex_escape_B2 : N := (.cons (.rtn (.tup (.cons (.lit (.str [])) (.cons (.neg (.lit (.int (.ofNat 1)))) .nil)))) .nil)
noncomputable def n_read_hex_escape_E3 : N := (.bin .Add (.bin .Mult (.loc 3) (.lit (.int (.ofNat 16)))) (.loc 5))
noncomputable def n_read_hex_escape_L4b : N := (.cons (.asg 5 n_read_hex_escape_E1) (.cons (.sif (.cmp .Gt (.loc 5) (.lit (.int (.ofNat 15)))) n_read_hex_escape_B2 .nil) (.cons (.asg 3 n_read_hex_escape_E3) .nil)))
noncomputable def n_read_hex_escape_B5 : N := (.cons (.rtn (.tup (.cons (.lit (.str [])) (.cons (.neg (.lit (.int (.ofNat 1)))) .nil)))) .nil)
noncomputable def n_read_hex_escape_T6 : N := (.cons (.sif (.call 269 (.cons (.loc 3) .nil)) n_read_hex_escape_B5 .nil) (.cons (.rtn (.tup (.cons (.bi .chr (.cons (.loc 3) .nil)) (.cons (.bin .Add (.loc 1) (.loc 2)) .nil)))) .nil))
noncomputable def n_read_hex_escape : N := (.cons (.asg 3 (.lit (.int (.ofNat 0)))) (.cons (.for (.inr 4) (.bi .rng (.cons (.loc 1) (.cons (.bin .Add (.loc 1) (.loc 2)) .nil))) n_read_hex_escape_L4b) n_read_hex_escape_T6))
noncomputable def n_read_code_point_E1 : N := (.bin .Add (.bin .Mult (.loc 2) (.lit (.int (.ofNat 16)))) (.call 304 (.cons (.idx (.loc 0) (.loc 1)) .nil)))
noncomputable def n_read_code_point_B2 : N := (.cons (.rtn (.tup (.cons (.lit (.str [])) (.cons (.neg (.lit (.int (.ofNat 1)))) .nil)))) .nil)
noncomputable def n_read_code_point_L3c : N := (.cmp .LtE (.call 304 (.cons (.call 248 (.cons (.loc 0) (.cons (.loc 1) .nil))) .nil)) (.lit (.int (.ofNat 15))))
noncomputable def n_read_code_point_L3b : N := (.cons (.asg 2 n_read_code_point_E1) (.cons (.sif (.call 269 (.cons (.loc 2) .nil)) n_read_code_point_B2 .nil) (.cons (.aug 3 .Add (.lit (.int (.ofNat 1)))) (.cons (.aug 1 .Add (.lit (.int (.ofNat 1)))) .nil))))
noncomputable def n_read_code_point_B4 : N := (.cons (.rtn (.tup (.cons (.lit (.str [])) (.cons (.neg (.lit (.int (.ofNat 1)))) .nil)))) .nil)
noncomputable def n_read_code_point_T5 : N := (.cons (.sif (.or (.cmp .Eq (.loc 3) (.lit (.int (.ofNat 0)))) (.cmp .NotEq (.call 248 (.cons (.loc 0) (.cons (.loc 1) .nil))) (.lit (.str [nat_lit 125])))) n_read_code_point_B4 .nil) (.cons (.rtn (.tup (.cons (.bi .chr (.cons (.loc 2) .nil)) (.cons (.bin .Add (.loc 1) (.lit (.int (.ofNat 1)))) .nil)))) .nil))
noncomputable def n_read_code_point : N := (.cons (.asg 2 (.lit (.int (.ofNat 0)))) (.cons (.asg 3 (.lit (.int (.ofNat 0)))) (.cons (.whl n_read_code_point_L3c n_read_code_point_L3b) n_read_code_point_T5)))
noncomputable def n_read_escape_E1 : N := (.call 248 (.cons (.loc 0) (.cons (.bin .Add (.loc 1) (.lit (.int (.ofNat 1)))) .nil)))
noncomputable def n_read_escape_B2 : N := (.cons (.rtn (.tup (.cons (.lit (.str [])) (.cons (.neg (.lit (.int (.ofNat 1)))) .nil)))) .nil)
noncomputable def n_read_escape_B3 : N := (.cons (.rtn (.call 360 (.cons (.loc 0) (.cons (.bin .Add (.loc 1) (.lit (.int (.ofNat 2)))) (.cons (.lit (.int (.ofNat 2))) .nil))))) .nil)
noncomputable def n_read_escape_B4 : N := (.cons (.rtn (.call 367 (.cons (.loc 0) (.cons (.bin .Add (.loc 1) (.lit (.int (.ofNat 3)))) .nil)))) .nil)
noncomputable def n_read_escape_B5 : N := (.cons (.sif (.cmp .Eq (.call 248 (.cons (.loc 0) (.cons (.bin .Add (.loc 1) (.lit (.int (.ofNat 2)))) .nil))) (.lit (.str [nat_lit 123]))) n_read_escape_B4 .nil) (.cons (.rtn (.call 360 (.cons (.loc 0) (.cons (.bin .Add (.loc 1) (.lit (.int (.ofNat 2)))) (.cons (.lit (.int (.ofNat 4))) .nil))))) .nil))
noncomputable def n_read_escape_B6 : N := (.cons (.rtn (.tup (.cons (.lit (.str [])) (.cons (.bin .Add (.loc 1) (.lit (.int (.ofNat 3)))) .nil)))) .nil)
noncomputable def n_read_escape_B7 : N := (.cons (.rtn (.tup (.cons (.lit (.str [])) (.cons (.bin .Add (.loc 1) (.lit (.int (.ofNat 2)))) .nil)))) .nil)
noncomputable def n_read_escape_B8 : N := (.cons (.rtn (.tup (.cons (.lit (.str [nat_lit 0])) (.cons (.bin .Add (.loc 1) (.lit (.int (.ofNat 2)))) .nil)))) .nil)
noncomputable def n_read_escape_B9 : N := (.cons (.sif (.and (.cmp .Eq (.loc 2) (.lit (.str [nat_lit 48]))) (.not (.call 276 (.cons (.call 248 (.cons (.loc 0) (.cons (.bin .Add (.loc 1) (.lit (.int (.ofNat 2)))) .nil))) .nil)))) n_read_escape_B8 .nil) (.cons (.rtn (.tup (.cons (.lit (.str [])) (.cons (.neg (.lit (.int (.ofNat 1)))) .nil)))) .nil))
noncomputable def n_read_escape_B10 : N := (.cons (.rtn (.tup (.cons (.idx (.lit d_ESCAPES) (.loc 2)) (.cons (.bin .Add (.loc 1) (.lit (.int (.ofNat 2)))) .nil)))) .nil)
noncomputable def n_read_escape_B11 : N := (.cons (.rtn (.tup (.cons (.lit (.str [])) (.cons (.neg (.lit (.int (.ofNat 1)))) .nil)))) .nil)
noncomputable def n_read_escape : N := (.cons (.asg 2 n_read_escape_E1) (.cons (.sif (.cmp .GtE (.bin .Add (.loc 1) (.lit (.int (.ofNat 1)))) (.bi .len (.cons (.loc 0) .nil))) n_read_escape_B2 .nil) (.cons (.sif (.cmp .Eq (.loc 2) (.lit (.str [nat_lit 120]))) n_read_escape_B3 .nil) (.cons (.sif (.cmp .Eq (.loc 2) (.lit (.str [nat_lit 117]))) n_read_escape_B5 .nil) (.cons (.sif (.and (.cmp .Eq (.loc 2) (.lit (.str [nat_lit 13]))) (.cmp .Eq (.call 248 (.cons (.loc 0) (.cons (.bin .Add (.loc 1) (.lit (.int (.ofNat 2)))) .nil))) (.lit (.str [nat_lit 10])))) n_read_escape_B6 .nil) (.cons (.sif (.call 262 (.cons (.loc 2) .nil)) n_read_escape_B7 .nil) (.cons (.sif (.call 276 (.cons (.loc 2) .nil)) n_read_escape_B9 .nil) (.cons (.sif (.cmp .In (.loc 2) (.lit d_ESCAPES)) n_read_escape_B10 .nil) (.cons (.sif (.call 269 (.cons (.bi .ord (.cons (.loc 2) .nil)) .nil)) n_read_escape_B11 .nil) (.cons (.rtn (.tup (.cons (.loc 2) (.cons (.bin .Add (.loc 1) (.lit (.int (.ofNat 2)))) .nil)))) .nil))))))))))
noncomputable def n_scan_string_B1 : N := (.cons (.rtn (.tup (.cons (.meth (.lit (.str [])) 3 (.cons (.loc 3) .nil)) (.cons (.bin .Add (.loc 1) (.lit (.int (.ofNat 1)))) (.cons (.loc 4) .nil))))) .nil)
noncomputable def n_scan_string_E2 : N := (.call 374 (.cons (.loc 0) (.cons (.loc 1) .nil)))
noncomputable def n_scan_string_B3 : N := (.cons (.asg 4 (.lit (.int (.ofNat 2)))) (.cons (.asg 7 (.bin .Add (.loc 1) (.lit (.int (.ofNat 1))))) .nil))
noncomputable def n_scan_string_B4 : N := (.cons (.asgM [nat_lit 6, nat_lit 7] n_scan_string_E2) (.cons (.sif (.cmp .Lt (.loc 7) (.lit (.int (.ofNat 0)))) n_scan_string_B3 .nil) (.cons (.expr (.meth (.loc 3) 0 (.cons (.loc 6) .nil))) (.cons (.asg 1 (.loc 7)) .nil))))
noncomputable def n_scan_string_B5 : N := (.cons (.sif (.call 269 (.cons (.bi .ord (.cons (.loc 5) .nil)) .nil)) (.cons (.asg 4 (.lit (.int (.ofNat 2)))) .nil) .nil) (.cons (.expr (.meth (.loc 3) 0 (.cons (.loc 5) .nil))) (.cons (.aug 1 .Add (.lit (.int (.ofNat 1)))) .nil)))
noncomputable def n_scan_string_L6c : N := (.and (.cmp .Lt (.loc 1) (.bi .len (.cons (.loc 0) .nil))) (.not (.call 255 (.cons (.idx (.loc 0) (.loc 1)) .nil))))
noncomputable def n_scan_string_L6b : N := (.cons (.asg 5 (.idx (.loc 0) (.loc 1))) (.cons (.sif (.cmp .Eq (.loc 5) (.loc 2)) n_scan_string_B1 .nil) (.cons (.sif (.cmp .Eq (.loc 5) (.lit (.str [nat_lit 92]))) n_scan_string_B4 n_scan_string_B5) .nil)))
noncomputable def n_scan_string_T7 : N := (.cons (.rtn (.tup (.cons (.meth (.lit (.str [])) 3 (.cons (.loc 3) .nil)) (.cons (.loc 1) (.cons (.lit (.int (.ofNat 1))) .nil))))) .nil)
noncomputable def n_scan_string : N := (.cons (.asg 2 (.idx (.loc 0) (.loc 1))) (.cons (.asg 3 (.list .nil)) (.cons (.asg 4 (.lit (.int (.ofNat 0)))) (.cons (.aug 1 .Add (.lit (.int (.ofNat 1)))) (.cons (.whl n_scan_string_L6c n_scan_string_L6b) n_scan_string_T7)))))
noncomputable def n_read_string_E1 : N := (.call 381 (.cons (.loc 0) (.cons (.loc 1) .nil)))
noncomputable def n_read_string : N := (.cons (.asgM [nat_lit 2, nat_lit 3, nat_lit 4] n_read_string_E1) (.cons (.rtn (.tup (.cons (.loc 2) (.cons (.loc 3) (.cons (.cmp .Eq (.loc 4) (.lit (.int (.ofNat 0)))) .nil))))) .nil))
noncomputable def n_is_hole : N := (.cons (.rtn (.and (.cmp .Eq (.call 248 (.cons (.loc 0) (.cons (.loc 1) .nil))) (.lit (.str [nat_lit 36]))) (.cmp .Eq (.call 248 (.cons (.loc 0) (.cons (.bin .Add (.loc 1) (.lit (.int (.ofNat 1)))) .nil))) (.lit (.str [nat_lit 123]))))) .nil)
noncomputable def n_scan_template_B1 : N := (.cons (.rtn (.tup (.cons (.meth (.lit (.str [])) 3 (.cons (.loc 2) .nil)) (.cons (.bin .Add (.loc 1) (.lit (.int (.ofNat 1)))) (.cons (.lit (.int (.ofNat 1))) (.cons (.loc 3) .nil)))))) .nil)
noncomputable def n_scan_template_B2 : N := (.cons (.rtn (.tup (.cons (.meth (.lit (.str [])) 3 (.cons (.loc 2) .nil)) (.cons (.bin .Add (.loc 1) (.lit (.int (.ofNat 2)))) (.cons (.lit (.int (.ofNat 0))) (.cons (.loc 3) .nil)))))) .nil)
noncomputable def n_scan_template_E3 : N := (.call 374 (.cons (.loc 0) (.cons (.loc 1) .nil)))
noncomputable def n_scan_template_B4 : N := (.cons (.asg 3 (.lit (.bool .true))) (.cons (.asg 6 (.bin .Add (.loc 1) (.lit (.int (.ofNat 1))))) .nil))
noncomputable def n_scan_template_B5 : N := (.cons (.asgM [nat_lit 5, nat_lit 6] n_scan_template_E3) (.cons (.sif (.cmp .Lt (.loc 6) (.lit (.int (.ofNat 0)))) n_scan_template_B4 .nil) (.cons (.expr (.meth (.loc 2) 0 (.cons (.loc 5) .nil))) (.cons (.asg 1 (.loc 6)) .nil))))
noncomputable def n_scan_template_B6 : N := (.cons (.expr (.meth (.loc 2) 0 (.cons (.lit (.str [nat_lit 10])) .nil))) (.cons (.aug 1 .Add (.lit (.int (.ofNat 1)))) (.cons (.sif (.cmp .Eq (.call 248 (.cons (.loc 0) (.cons (.loc 1) .nil))) (.lit (.str [nat_lit 10]))) (.cons (.aug 1 .Add (.lit (.int (.ofNat 1)))) .nil) .nil) .nil)))
noncomputable def n_scan_template_E7 : N := (.or (.loc 3) (.call 269 (.cons (.bi .ord (.cons (.loc 4) .nil)) .nil)))
noncomputable def n_scan_template_B8 : N := (.cons (.asg 3 n_scan_template_E7) (.cons (.expr (.meth (.loc 2) 0 (.cons (.loc 4) .nil))) (.cons (.aug 1 .Add (.lit (.int (.ofNat 1)))) .nil)))
noncomputable def n_scan_template_B9 : N := (.cons (.sif (.cmp .Eq (.loc 4) (.lit (.str [nat_lit 13]))) n_scan_template_B6 n_scan_template_B8) .nil)
noncomputable def n_scan_template_L10c : N := (.cmp .Lt (.loc 1) (.bi .len (.cons (.loc 0) .nil)))
noncomputable def n_scan_template_L10b : N := (.cons (.asg 4 (.idx (.loc 0) (.loc 1))) (.cons (.sif (.cmp .Eq (.loc 4) (.lit (.str [nat_lit 96]))) n_scan_template_B1 .nil) (.cons (.sif (.call 395 (.cons (.loc 0) (.cons (.loc 1) .nil))) n_scan_template_B2 .nil) (.cons (.sif (.cmp .Eq (.loc 4) (.lit (.str [nat_lit 92]))) n_scan_template_B5 n_scan_template_B9) .nil))))
noncomputable def n_scan_template_T11 : N := (.cons (.rtn (.tup (.cons (.meth (.lit (.str [])) 3 (.cons (.loc 2) .nil)) (.cons (.loc 1) (.cons (.lit (.int (.ofNat 2))) (.cons (.loc 3) .nil)))))) .nil)
noncomputable def n_scan_template : N := (.cons (.asg 2 (.list .nil)) (.cons (.asg 3 (.lit (.bool .false))) (.cons (.aug 1 .Add (.lit (.int (.ofNat 1)))) (.cons (.whl n_scan_template_L10c n_scan_template_L10b) n_scan_template_T11))))
noncomputable def n_read_template_E1 : N := (.call 402 (.cons (.loc 0) (.cons (.loc 1) .nil)))
noncomputable def n_read_template : N := (.cons (.asgM [nat_lit 2, nat_lit 3, nat_lit 4, nat_lit 5] n_read_template_E1) (.cons (.sif (.loc 5) (.cons (.asg 4 (.lit (.int (.ofNat 2)))) .nil) .nil) (.cons (.rtn (.tup (.cons (.loc 2) (.cons (.loc 3) (.cons (.loc 4) .nil))))) .nil)))
noncomputable def n_read_sign_E1 : N := (.slc (.loc 0) (.loc 1) (.bin .Add (.loc 1) (.lit (.int (.ofNat 3)))))
noncomputable def n_read_sign_E2 : N := (.slc (.loc 0) (.loc 1) (.bin .Add (.loc 1) (.lit (.int (.ofNat 2)))))
noncomputable def n_read_sign_E3 : N := (.slc (.loc 0) (.loc 1) (.bin .Add (.loc 1) (.lit (.int (.ofNat 1)))))
noncomputable def n_read_sign : N := (.cons (.asg 2 n_read_sign_E1) (.cons (.sif (.cmp .In (.loc 2) (.lit t_SIGNS_THREE)) (.cons (.rtn (.loc 2)) .nil) .nil) (.cons (.asg 2 n_read_sign_E2) (.cons (.sif (.and (.cmp .Eq (.loc 2) (.lit (.str [nat_lit 63, nat_lit 46]))) (.call 276 (.cons (.call 248 (.cons (.loc 0) (.cons (.bin .Add (.loc 1) (.lit (.int (.ofNat 2)))) .nil))) .nil))) (.cons (.rtn (.lit (.str [nat_lit 63]))) .nil) .nil) (.cons (.sif (.cmp .In (.loc 2) (.lit t_SIGNS_TWO)) (.cons (.rtn (.loc 2)) .nil) .nil) (.cons (.asg 2 n_read_sign_E3) (.cons (.sif (.and (.cmp .NotEq (.loc 2) (.lit (.str []))) (.cmp .In (.loc 2) (.lit (.str s_SIGNS_ONE)))) (.cons (.rtn (.loc 2)) .nil) .nil) (.cons (.rtn (.lit (.str []))) .nil))))))))
noncomputable def n_scanner_read_name_L1c : N := (.call 290 (.cons (.call 248 (.cons (.loc 0) (.cons (.loc 1) .nil))) .nil))
noncomputable def n_scanner_read_name_L1b : N := (.cons (.aug 1 .Add (.lit (.int (.ofNat 1)))) .nil)
noncomputable def n_scanner_read_name_T2 : N := (.cons (.rtn (.loc 1)) .nil)
noncomputable def n_scanner_read_name : N := (.cons (.whl n_scanner_read_name_L1c n_scanner_read_name_L1b) n_scanner_read_name_T2)
noncomputable def n_name_token_E1 : N := (.call 423 (.cons (.loc 0) (.cons (.loc 1) .nil)))
noncomputable def n_name_token : N := (.cons (.asg 3 n_name_token_E1) (.cons (.asg 4 (.slc (.loc 0) (.loc 1) (.loc 3))) (.cons (.asg 5 (.lit (.int (.ofNat 1)))) (.cons (.sif (.call 297 (.cons (.loc 4) .nil)) (.cons (.asg 5 (.lit (.int (.ofNat 2)))) .nil) .nil) (.cons (.rtn (.call 237 (.cons (.loc 5) (.cons (.loc 4) (.cons (.lit (.int (.ofNat 0))) (.cons (.loc 1) (.cons (.loc 3) (.cons (.loc 2) .nil)))))))) .nil)))))
noncomputable def n_number_token_E1 : N := (.call 353 (.cons (.loc 0) (.cons (.loc 2) .nil)))
noncomputable def n_number_token_B2 : N := (.cons (.expr (.meth (.loc 1) 6 (.cons (.lit (.int (.ofNat 1127))) (.cons (.loc 2) (.cons (.tup (.cons (.slc (.loc 0) (.loc 2) (.loc 5)) .nil)) .nil))))) .nil)
noncomputable def n_number_token : N := (.cons (.asgM [nat_lit 4, nat_lit 5, nat_lit 6] n_number_token_E1) (.cons (.sif (.not (.loc 6)) n_number_token_B2 .nil) (.cons (.rtn (.call 237 (.cons (.lit (.int (.ofNat 3))) (.cons (.bi .str (.cons (.loc 4) .nil)) (.cons (.loc 4) (.cons (.loc 2) (.cons (.loc 5) (.cons (.loc 3) .nil)))))))) .nil)))
noncomputable def n_string_token_E1 : N := (.call 381 (.cons (.loc 0) (.cons (.loc 2) .nil)))
noncomputable def n_string_token_B2 : N := (.cons (.expr (.meth (.loc 1) 6 (.cons (.lit (.int (.ofNat 1002))) (.cons (.loc 2) (.cons (.tup .nil) .nil))))) .nil)
noncomputable def n_string_token_B3 : N := (.cons (.expr (.meth (.loc 1) 6 (.cons (.lit (.int (.ofNat 1127))) (.cons (.loc 2) (.cons (.tup (.cons (.lit (.str [nat_lit 92])) .nil)) .nil))))) .nil)
noncomputable def n_string_token_B4 : N := (.cons (.sif (.cmp .Eq (.loc 6) (.lit (.int (.ofNat 2)))) n_string_token_B3 .nil) .nil)
noncomputable def n_string_token : N := (.cons (.asgM [nat_lit 4, nat_lit 5, nat_lit 6] n_string_token_E1) (.cons (.sif (.cmp .Eq (.loc 6) (.lit (.int (.ofNat 1)))) n_string_token_B2 n_string_token_B4) (.cons (.rtn (.call 237 (.cons (.lit (.int (.ofNat 4))) (.cons (.loc 4) (.cons (.lit (.int (.ofNat 0))) (.cons (.loc 2) (.cons (.loc 5) (.cons (.loc 3) .nil)))))))) .nil)))
noncomputable def n_template_token_E1 : N := (.call 402 (.cons (.loc 0) (.cons (.loc 2) .nil)))
noncomputable def n_template_token_B2 : N := (.cons (.expr (.meth (.loc 1) 6 (.cons (.lit (.int (.ofNat 1160))) (.cons (.loc 2) (.cons (.tup .nil) .nil))))) .nil)
noncomputable def n_template_token_B3 : N := (.cons (.expr (.meth (.loc 1) 6 (.cons (.lit (.int (.ofNat 1127))) (.cons (.loc 2) (.cons (.tup (.cons (.lit (.str [nat_lit 92])) .nil)) .nil))))) .nil)
noncomputable def n_template_token : N := (.cons (.asgM [nat_lit 6, nat_lit 7, nat_lit 8, nat_lit 9] n_template_token_E1) (.cons (.sif (.cmp .Eq (.loc 8) (.lit (.int (.ofNat 2)))) n_template_token_B2 (.cons (.sif (.loc 9) n_template_token_B3 .nil) .nil)) (.cons (.asg 10 (.loc 5)) (.cons (.sif (.cmp .Eq (.loc 8) (.lit (.int (.ofNat 0)))) (.cons (.asg 10 (.loc 4)) .nil) .nil) (.cons (.rtn (.call 237 (.cons (.loc 10) (.cons (.loc 6) (.cons (.lit (.int (.ofNat 0))) (.cons (.loc 2) (.cons (.loc 7) (.cons (.loc 3) .nil)))))))) .nil)))))
noncomputable def n_read_token_B1 : N := (.cons (.rtn (.call 430 (.cons (.loc 0) (.cons (.loc 2) (.cons (.loc 3) .nil))))) .nil)
noncomputable def n_read_token_B2 : N := (.cons (.rtn (.call 444 (.cons (.loc 0) (.cons (.loc 1) (.cons (.loc 2) (.cons (.loc 3) .nil)))))) .nil)
noncomputable def n_read_token_B3 : N := (.cons (.rtn (.call 451 (.cons (.loc 0) (.cons (.loc 1) (.cons (.loc 2) (.cons (.loc 3) .nil)))))) .nil)
noncomputable def n_read_token_B4 : N := (.cons (.rtn (.call 458 (.cons (.loc 0) (.cons (.loc 1) (.cons (.loc 2) (.cons (.loc 3) (.cons (.lit (.int (.ofNat 7))) (.cons (.lit (.int (.ofNat 6))) .nil)))))))) .nil)
noncomputable def n_read_token_E5 : N := (.call 416 (.cons (.loc 0) (.cons (.loc 2) .nil)))
noncomputable def n_read_token_B6 : N := (.cons (.expr (.meth (.loc 1) 6 (.cons (.lit (.int (.ofNat 1127))) (.cons (.loc 2) (.cons (.tup (.cons (.loc 5) .nil)) .nil))))) .nil)
noncomputable def n_read_token : N := (.cons (.asg 4 (.idx (.loc 0) (.loc 2))) (.cons (.sif (.call 283 (.cons (.loc 4) .nil)) n_read_token_B1 .nil) (.cons (.sif (.call 276 (.cons (.loc 4) .nil)) n_read_token_B2 .nil) (.cons (.sif (.or (.cmp .Eq (.loc 4) (.lit (.str [nat_lit 39]))) (.cmp .Eq (.loc 4) (.lit (.str [nat_lit 34])))) n_read_token_B3 .nil) (.cons (.sif (.cmp .Eq (.loc 4) (.lit (.str [nat_lit 96]))) n_read_token_B4 .nil) (.cons (.sif (.and (.cmp .Eq (.loc 4) (.lit (.str [nat_lit 35]))) (.call 283 (.cons (.call 248 (.cons (.loc 0) (.cons (.bin .Add (.loc 2) (.lit (.int (.ofNat 1)))) .nil))) .nil))) (.cons (.rtn .bad) .nil) .nil) (.cons (.asg 5 n_read_token_E5) (.cons (.sif (.cmp .Eq (.loc 5) (.lit (.str []))) (.cons (.rtn (.lit .none)) .nil) .nil) (.cons (.sif (.and (.cmp .Eq (.loc 5) (.lit (.str [nat_lit 46]))) (.call 276 (.cons (.call 248 (.cons (.loc 0) (.cons (.bin .Add (.loc 2) (.lit (.int (.ofNat 1)))) .nil))) .nil))) n_read_token_B6 .nil) (.cons (.rtn (.call 237 (.cons (.lit (.int (.ofNat 5))) (.cons (.loc 5) (.cons (.lit (.int (.ofNat 0))) (.cons (.loc 2) (.cons (.bin .Add (.loc 2) (.bi .len (.cons (.loc 5) .nil))) (.cons (.loc 3) .nil)))))))) .nil))))))))))
noncomputable def n_is_brace : N := (.cons (.rtn (.and (.cmp .Eq (.attr (.loc 0) 0) (.lit (.int (.ofNat 5)))) (.cmp .Eq (.attr (.loc 0) 1) (.loc 1)))) .nil)
noncomputable def n_follow_hole_B1 : N := (.cons (.expr (.meth (.loc 2) 0 (.cons (.lit (.int (.ofNat 0))) .nil))) .nil)
noncomputable def n_follow_hole_B2 : N := (.cons (.augI (.loc 2) (.neg (.lit (.int (.ofNat 1)))) .Add (.lit (.int (.ofNat 1)))) .nil)
noncomputable def n_follow_hole_B3 : N := (.cons (.augI (.loc 2) (.neg (.lit (.int (.ofNat 1)))) .Sub (.lit (.int (.ofNat 1)))) .nil)
noncomputable def n_follow_hole_B4 : N := (.cons (.asg 1 (.meth (.loc 0) 8 .nil)) (.cons (.sif (.cmp .Eq (.attr (.loc 1) 0) (.lit (.int (.ofNat 9)))) (.cons (.expr (.meth (.loc 2) 2 .nil)) .nil) .nil) .nil))
noncomputable def n_follow_hole_B5 : N := (.cons (.sif (.call 472 (.cons (.loc 1) (.cons (.lit (.str [nat_lit 125])) .nil))) n_follow_hole_B4 .nil) .nil)
noncomputable def n_follow_hole_B6 : N := (.cons (.sif (.and (.call 472 (.cons (.loc 1) (.cons (.lit (.str [nat_lit 125])) .nil))) (.cmp .Gt (.idx (.loc 2) (.neg (.lit (.int (.ofNat 1))))) (.lit (.int (.ofNat 0))))) n_follow_hole_B3 n_follow_hole_B5) .nil)
noncomputable def n_follow_hole : N := (.cons (.sif (.cmp .Eq (.attr (.loc 1) 0) (.lit (.int (.ofNat 7)))) n_follow_hole_B1 .nil) (.cons (.sif (.not (.loc 2)) (.cons (.rtn (.loc 1)) .nil) .nil) (.cons (.sif (.call 472 (.cons (.loc 1) (.cons (.lit (.str [nat_lit 123])) .nil))) n_follow_hole_B2 n_follow_hole_B6) (.cons (.rtn (.loc 1)) .nil))))
noncomputable def n_scan_all_E1 : N := (.call 503 (.cons (.loc 0) (.cons (.loc 1) .nil)))
noncomputable def n_scan_all_L2c : N := (.or (.not (.loc 4)) (.cmp .NotEq (.attr (.idx (.loc 4) (.neg (.lit (.int (.ofNat 1))))) 0) (.lit (.int (.ofNat 0)))))
noncomputable def n_scan_all_L2b : N := (.cons (.expr (.meth (.loc 4) 0 (.cons (.call 514 (.cons (.loc 2) (.cons (.meth (.loc 2) 7 .nil) (.cons (.loc 3) .nil)))) .nil))) .nil)
noncomputable def n_scan_all_B3 : N := (.cons (.expr (.meth (.loc 1) 6 (.cons (.lit (.int (.ofNat 1160))) (.cons (.attr (.idx (.loc 4) (.neg (.lit (.int (.ofNat 1))))) 3) (.cons (.tup .nil) .nil))))) .nil)
noncomputable def n_scan_all_T4 : N := (.cons (.sif (.and (.loc 3) (.cmp .NotIn (.lit (.int (.ofNat 1160))) .bad)) n_scan_all_B3 .nil) (.cons (.rtn (.loc 4)) .nil))
noncomputable def n_scan_all : N := (.cons (.asg 2 n_scan_all_E1) (.cons (.asg 3 (.list .nil)) (.cons (.asg 4 (.list .nil)) (.cons (.whl n_scan_all_L2c n_scan_all_L2b) n_scan_all_T4))))
noncomputable def n_is_token : N := (.cons (.rtn (.and (.cmp .Eq (.attr (.loc 0) 0) (.loc 1)) (.cmp .Eq (.attr (.loc 0) 1) (.loc 2)))) .nil)
noncomputable def n_eat_token : N := (.cons (.sif (.not (.call 767 (.cons (.meth (.loc 0) 9 .nil) (.cons (.loc 1) (.cons (.loc 2) .nil))))) (.cons (.rtn (.lit (.bool .false))) .nil) .nil) (.cons (.expr (.meth (.loc 0) 10 .nil)) (.cons (.rtn (.lit (.bool .true))) .nil)))
noncomputable def n_names_prop : N := (.cons (.rtn (.cmp .In (.attr (.loc 0) 0) (.tup (.cons (.lit (.int (.ofNat 1))) (.cons (.lit (.int (.ofNat 2))) (.cons (.lit (.int (.ofNat 4))) (.cons (.lit (.int (.ofNat 3))) .nil))))))) .nil)
noncomputable def n_literal_in_brackets : N := (.cons (.rtn (.and (.cmp .In (.attr (.meth (.loc 0) 11 (.cons (.lit (.int (.ofNat 1))) .nil)) 0) (.tup (.cons (.lit (.int (.ofNat 4))) (.cons (.lit (.int (.ofNat 3))) (.cons (.lit (.int (.ofNat 6))) .nil))))) (.call 767 (.cons (.meth (.loc 0) 11 (.cons (.lit (.int (.ofNat 2))) .nil)) (.cons (.lit (.int (.ofNat 5))) (.cons (.lit (.str [nat_lit 93])) .nil)))))) .nil)
noncomputable def n_read_prop_name_B1 : N := (.cons (.expr (.meth (.loc 0) 14 (.cons (.lit (.int (.ofNat 1003))) (.cons (.tup .nil) .nil)))) .nil)
noncomputable def n_read_prop_name_B2 : N := (.cons (.expr (.meth (.loc 0) 14 (.cons (.lit (.int (.ofNat 9002))) (.cons (.tup (.cons (.lit (.str [nat_lit 97, nat_lit 32, nat_lit 99, nat_lit 111, nat_lit 109, nat_lit 112, nat_lit 117, nat_lit 116, nat_lit 101, nat_lit 100, nat_lit 32, nat_lit 110, nat_lit 97, nat_lit 109, nat_lit 101])) .nil)) .nil)))) .nil)
noncomputable def n_read_prop_name : N := (.cons (.sif (.call 788 (.cons (.meth (.loc 0) 9 .nil) .nil)) (.cons (.rtn (.attr (.meth (.loc 0) 10 .nil) 1)) .nil) .nil) (.cons (.sif (.not (.meth (.loc 0) 12 (.cons (.lit (.str [nat_lit 91])) .nil))) n_read_prop_name_B1 .nil) (.cons (.sif (.not (.call 795 (.cons (.loc 0) .nil))) n_read_prop_name_B2 .nil) (.cons (.expr (.meth (.loc 0) 10 .nil)) (.cons (.asg 1 (.attr (.meth (.loc 0) 10 .nil) 1)) (.cons (.expr (.meth (.loc 0) 10 .nil)) (.cons (.rtn (.loc 1)) .nil)))))))
noncomputable def n_law_take : N := (.cons (.asg 2 (.idx (.loc 0) (.lit (.int (.ofNat 0))))) (.cons (.setI (.loc 0) (.lit (.int (.ofNat 0))) (.bin .Add (.loc 2) (.lit (.int (.ofNat 1))))) (.cons (.rtn (.bin .Mod (.bin .Add (.idx (.idx (.loc 0) (.lit (.int (.ofNat 1)))) (.bin .Mod (.loc 2) (.bi .len (.cons (.idx (.loc 0) (.lit (.int (.ofNat 1)))) .nil)))) (.bin .Mult (.lit (.int (.ofNat 7))) (.bin .FloorDiv (.loc 2) (.bi .len (.cons (.idx (.loc 0) (.lit (.int (.ofNat 1)))) .nil))))) (.loc 1))) .nil)))
noncomputable def n_law_reserved : N := (.cons (.rtn (.tup (.cons (.lit (.str [nat_lit 98, nat_lit 114, nat_lit 101, nat_lit 97, nat_lit 107])) (.cons (.lit (.str [nat_lit 99, nat_lit 97, nat_lit 115, nat_lit 101])) (.cons (.lit (.str [nat_lit 99, nat_lit 97, nat_lit 116, nat_lit 99, nat_lit 104])) (.cons (.lit (.str [nat_lit 99, nat_lit 108, nat_lit 97, nat_lit 115, nat_lit 115])) (.cons (.lit (.str [nat_lit 99, nat_lit 111, nat_lit 110, nat_lit 115, nat_lit 116])) (.cons (.lit (.str [nat_lit 99, nat_lit 111, nat_lit 110, nat_lit 116, nat_lit 105, nat_lit 110, nat_lit 117, nat_lit 101])) (.cons (.lit (.str [nat_lit 100, nat_lit 101, nat_lit 98, nat_lit 117, nat_lit 103, nat_lit 103, nat_lit 101, nat_lit 114])) (.cons (.lit (.str [nat_lit 100, nat_lit 101, nat_lit 102, nat_lit 97, nat_lit 117, nat_lit 108, nat_lit 116])) (.cons (.lit (.str [nat_lit 100, nat_lit 101, nat_lit 108, nat_lit 101, nat_lit 116, nat_lit 101])) (.cons (.lit (.str [nat_lit 100, nat_lit 111])) (.cons (.lit (.str [nat_lit 101, nat_lit 108, nat_lit 115, nat_lit 101])) (.cons (.lit (.str [nat_lit 101, nat_lit 110, nat_lit 117, nat_lit 109])) (.cons (.lit (.str [nat_lit 101, nat_lit 120, nat_lit 112, nat_lit 111, nat_lit 114, nat_lit 116])) (.cons (.lit (.str [nat_lit 101, nat_lit 120, nat_lit 116, nat_lit 101, nat_lit 110, nat_lit 100, nat_lit 115])) (.cons (.lit (.str [nat_lit 102, nat_lit 97, nat_lit 108, nat_lit 115, nat_lit 101])) (.cons (.lit (.str [nat_lit 102, nat_lit 105, nat_lit 110, nat_lit 97, nat_lit 108, nat_lit 108, nat_lit 121])) (.cons (.lit (.str [nat_lit 102, nat_lit 111, nat_lit 114])) (.cons (.lit (.str [nat_lit 102, nat_lit 117, nat_lit 110, nat_lit 99, nat_lit 116, nat_lit 105, nat_lit 111, nat_lit 110])) (.cons (.lit (.str [nat_lit 105, nat_lit 102])) (.cons (.lit (.str [nat_lit 105, nat_lit 109, nat_lit 112, nat_lit 111, nat_lit 114, nat_lit 116])) (.cons (.lit (.str [nat_lit 105, nat_lit 110])) (.cons (.lit (.str [nat_lit 105, nat_lit 110, nat_lit 115, nat_lit 116, nat_lit 97, nat_lit 110, nat_lit 99, nat_lit 101, nat_lit 111, nat_lit 102])) (.cons (.lit (.str [nat_lit 110, nat_lit 101, nat_lit 119])) (.cons (.lit (.str [nat_lit 110, nat_lit 117, nat_lit 108, nat_lit 108])) (.cons (.lit (.str [nat_lit 114, nat_lit 101, nat_lit 116, nat_lit 117, nat_lit 114, nat_lit 110])) (.cons (.lit (.str [nat_lit 115, nat_lit 117, nat_lit 112, nat_lit 101, nat_lit 114])) (.cons (.lit (.str [nat_lit 115, nat_lit 119, nat_lit 105, nat_lit 116, nat_lit 99, nat_lit 104])) (.cons (.lit (.str [nat_lit 116, nat_lit 104, nat_lit 105, nat_lit 115])) (.cons (.lit (.str [nat_lit 116, nat_lit 104, nat_lit 114, nat_lit 111, nat_lit 119])) (.cons (.lit (.str [nat_lit 116, nat_lit 114, nat_lit 117, nat_lit 101])) (.cons (.lit (.str [nat_lit 116, nat_lit 114, nat_lit 121])) (.cons (.lit (.str [nat_lit 116, nat_lit 121, nat_lit 112, nat_lit 101, nat_lit 111, nat_lit 102])) (.cons (.lit (.str [nat_lit 118, nat_lit 97, nat_lit 114])) (.cons (.lit (.str [nat_lit 118, nat_lit 111, nat_lit 105, nat_lit 100])) (.cons (.lit (.str [nat_lit 119, nat_lit 104, nat_lit 105, nat_lit 108, nat_lit 101])) (.cons (.lit (.str [nat_lit 119, nat_lit 105, nat_lit 116, nat_lit 104])) .nil)))))))))))))))))))))))))))))))))))))) .nil)
noncomputable def n_law_piece_E1 : N := (.tup (.cons (.lit (.str [nat_lit 36, nat_lit 123])) (.cons (.lit (.str [nat_lit 34])) (.cons (.lit (.str [nat_lit 92])) (.cons (.lit (.str [nat_lit 96])) (.cons (.lit (.str [nat_lit 36])) (.cons (.lit (.str [nat_lit 123])) (.cons (.lit (.str [nat_lit 125])) (.cons (.lit (.str [nat_lit 39])) (.cons (.lit (.str [nat_lit 10])) (.cons (.lit (.str [nat_lit 13])) (.cons (.lit (.str [nat_lit 9])) (.cons (.lit (.str [nat_lit 0])) (.cons (.lit (.str [nat_lit 13, nat_lit 10])) (.cons (.lit (.str [nat_lit 36, nat_lit 36, nat_lit 123])) (.cons (.lit (.str [nat_lit 8232])) (.cons (.lit (.str [nat_lit 8233])) (.cons (.lit (.str [nat_lit 127])) (.cons (.lit (.str [nat_lit 233])) (.cons (.lit (.str [nat_lit 1635])) (.cons (.lit (.str [nat_lit 8364])) (.cons (.lit (.str [nat_lit 65279])) (.cons (.lit (.str [nat_lit 65535])) (.cons (.bi .chr (.cons (.lit (.int (.ofNat 65536))) .nil)) (.cons (.bi .chr (.cons (.lit (.int (.ofNat 128512))) .nil)) (.cons (.lit (.str [nat_lit 31])) (.cons (.lit (.str [nat_lit 8])) (.cons (.lit (.str [nat_lit 160])) (.cons (.lit (.str [nat_lit 97])) (.cons (.lit (.str [nat_lit 48])) (.cons (.lit (.str [nat_lit 36])) (.cons (.lit (.str [nat_lit 120, nat_lit 54, nat_lit 48])) (.cons (.lit (.str [nat_lit 110])) .nil)))))))))))))))))))))))))))))))))
noncomputable def n_law_piece_E2 : N := (.call 809 (.cons (.loc 0) (.cons (.lit (.int (.ofNat 1024))) .nil)))
noncomputable def n_law_piece_B3 : N := (.cons (.rtn (.idx (.loc 1) (.bin .Mod (.loc 3) (.lit (.int (.ofNat 32)))))) .nil)
noncomputable def n_law_piece_B4 : N := (.cons (.rtn (.bi .chr (.cons (.bin .Mod (.loc 3) (.lit (.int (.ofNat 128)))) .nil))) .nil)
noncomputable def n_law_piece_B5 : N := (.cons (.rtn (.idx (.lit (.str s_LAW64)) (.bin .Mod (.loc 3) (.lit (.int (.ofNat 64)))))) .nil)
noncomputable def n_law_piece : N := (.cons (.asg 1 n_law_piece_E1) (.cons (.asg 2 n_law_piece_E2) (.cons (.asg 3 (.bin .FloorDiv (.loc 2) (.lit (.int (.ofNat 4))))) (.cons (.sif (.cmp .Eq (.bin .Mod (.loc 2) (.lit (.int (.ofNat 4)))) (.lit (.int (.ofNat 0)))) n_law_piece_B3 .nil) (.cons (.sif (.cmp .Eq (.bin .Mod (.loc 2) (.lit (.int (.ofNat 4)))) (.lit (.int (.ofNat 1)))) n_law_piece_B4 .nil) (.cons (.sif (.cmp .Eq (.bin .Mod (.loc 2) (.lit (.int (.ofNat 4)))) (.lit (.int (.ofNat 2)))) n_law_piece_B5 .nil) (.cons (.rtn (.idx (.lit (.str s_DIGIT_LETTERS)) (.bin .Mod (.loc 3) (.lit (.int (.ofNat 10)))))) .nil)))))))
noncomputable def n_law_escapes : N := (.cons (.rtn (.tup (.cons (.tup (.cons (.lit (.str [nat_lit 97])) (.cons (.lit (.str [nat_lit 97])) .nil))) (.cons (.tup (.cons (.lit (.str [nat_lit 92, nat_lit 110])) (.cons (.lit (.str [nat_lit 10])) .nil))) (.cons (.tup (.cons (.lit (.str [nat_lit 36])) (.cons (.lit (.str [nat_lit 36])) .nil))) (.cons (.tup (.cons (.lit (.str [nat_lit 125])) (.cons (.lit (.str [nat_lit 125])) .nil))) (.cons (.tup (.cons (.lit (.str [nat_lit 32])) (.cons (.lit (.str [nat_lit 32])) .nil))) (.cons (.tup (.cons (.lit (.str [nat_lit 8232])) (.cons (.lit (.str [nat_lit 8232])) .nil))) (.cons (.tup (.cons (.lit (.str [nat_lit 233])) (.cons (.lit (.str [nat_lit 233])) .nil))) (.cons (.tup (.cons (.lit (.str [nat_lit 92, nat_lit 116])) (.cons (.lit (.str [nat_lit 9])) .nil))) (.cons (.tup (.cons (.lit (.str [nat_lit 92, nat_lit 114])) (.cons (.lit (.str [nat_lit 13])) .nil))) (.cons (.tup (.cons (.lit (.str [nat_lit 92, nat_lit 98])) (.cons (.lit (.str [nat_lit 8])) .nil))) (.cons (.tup (.cons (.lit (.str [nat_lit 92, nat_lit 118])) (.cons (.lit (.str [nat_lit 11])) .nil))) (.cons (.tup (.cons (.lit (.str [nat_lit 92, nat_lit 102])) (.cons (.lit (.str [nat_lit 12])) .nil))) (.cons (.tup (.cons (.lit (.str [nat_lit 92, nat_lit 48])) (.cons (.lit (.str [nat_lit 0])) .nil))) (.cons (.tup (.cons (.lit (.str [nat_lit 92, nat_lit 120, nat_lit 52, nat_lit 49])) (.cons (.lit (.str [nat_lit 65])) .nil))) (.cons (.tup (.cons (.lit (.str [nat_lit 92, nat_lit 120, nat_lit 53, nat_lit 67])) (.cons (.lit (.str [nat_lit 92])) .nil))) (.cons (.tup (.cons (.lit (.str [nat_lit 92, nat_lit 117, nat_lit 48, nat_lit 48, nat_lit 50, nat_lit 50])) (.cons (.lit (.str [nat_lit 34])) .nil))) (.cons (.tup (.cons (.lit (.str [nat_lit 92, nat_lit 117, nat_lit 123, nat_lit 49, nat_lit 102, nat_lit 125])) (.cons (.lit (.str [nat_lit 31])) .nil))) (.cons (.tup (.cons (.lit (.str [nat_lit 92, nat_lit 117, nat_lit 123, nat_lit 48, nat_lit 48, nat_lit 102, nat_lit 102, nat_lit 102, nat_lit 102, nat_lit 125])) (.cons (.lit (.str [nat_lit 65535])) .nil))) (.cons (.tup (.cons (.lit (.str [nat_lit 92, nat_lit 117, nat_lit 50, nat_lit 48, nat_lit 50, nat_lit 56])) (.cons (.lit (.str [nat_lit 8232])) .nil))) (.cons (.tup (.cons (.lit (.str [nat_lit 92, nat_lit 113])) (.cons (.lit (.str [nat_lit 113])) .nil))) (.cons (.tup (.cons (.lit (.str [nat_lit 92, nat_lit 92])) (.cons (.lit (.str [nat_lit 92])) .nil))) (.cons (.tup (.cons (.lit (.str [nat_lit 92, nat_lit 96])) (.cons (.lit (.str [nat_lit 96])) .nil))) (.cons (.tup (.cons (.lit (.str [nat_lit 92, nat_lit 39])) (.cons (.lit (.str [nat_lit 39])) .nil))) (.cons (.tup (.cons (.lit (.str [nat_lit 92, nat_lit 34])) (.cons (.lit (.str [nat_lit 34])) .nil))) (.cons (.tup (.cons (.lit (.str [nat_lit 92, nat_lit 10])) (.cons (.lit (.str [])) .nil))) (.cons (.tup (.cons (.lit (.str [nat_lit 92, nat_lit 13, nat_lit 10])) (.cons (.lit (.str [])) .nil))) (.cons (.tup (.cons (.lit (.str [nat_lit 92, nat_lit 8233])) (.cons (.lit (.str [])) .nil))) (.cons (.tup (.cons (.lit (.str [nat_lit 92, nat_lit 120, nat_lit 52, nat_lit 103])) (.cons (.lit (.str [])) .nil))) (.cons (.tup (.cons (.lit (.str [nat_lit 92, nat_lit 117, nat_lit 49, nat_lit 50, nat_lit 103])) (.cons (.lit (.str [])) .nil))) (.cons (.tup (.cons (.lit (.str [nat_lit 92, nat_lit 117, nat_lit 123, nat_lit 125])) (.cons (.lit (.str [])) .nil))) (.cons (.tup (.cons (.lit (.str [nat_lit 92, nat_lit 117, nat_lit 123, nat_lit 49, nat_lit 49, nat_lit 48, nat_lit 48, nat_lit 48, nat_lit 48, nat_lit 125])) (.cons (.lit (.str [])) .nil))) (.cons (.tup (.cons (.lit (.str [nat_lit 92, nat_lit 49])) (.cons (.lit (.str [])) .nil))) (.cons (.tup (.cons (.lit (.str [nat_lit 92, nat_lit 117, nat_lit 100, nat_lit 56, nat_lit 48, nat_lit 48])) (.cons (.lit (.str [])) .nil))) (.cons (.tup (.cons (.lit (.str [nat_lit 92, nat_lit 117, nat_lit 123, nat_lit 49, nat_lit 48, nat_lit 48, nat_lit 48, nat_lit 48, nat_lit 125])) (.cons (.lit (.str [])) .nil))) .nil)))))))))))))))))))))))))))))))))))) .nil)
noncomputable def n_law_beyond_C1e : N := (.loc 0)
noncomputable def n_law_beyond_C1c : N := (.cmp .Gt (.bi .ord (.cons (.loc 0) .nil)) (.lit (.int (.ofNat 65535))))
noncomputable def n_law_beyond : N := (.cons (.rtn (.cmp .Gt (.bi .len (.cons (.comp n_law_beyond_C1e n_law_beyond_C1c (.loc 0)) .nil)) (.lit (.int (.ofNat 0))))) .nil)
noncomputable def n_law_cooked_E1 : N := (.idx (.tup (.cons (.lit (.str [nat_lit 34])) (.cons (.lit (.str [nat_lit 39])) (.cons (.lit (.str [nat_lit 96])) .nil)))) (.call 809 (.cons (.loc 0) (.cons (.lit (.int (.ofNat 3))) .nil))))
noncomputable def n_law_cooked_E2 : N := (.call 809 (.cons (.loc 0) (.cons (.lit (.int (.ofNat 41))) .nil)))
noncomputable def n_law_cooked_B3 : N := (.cons (.asg 7 (.bin .Sub (.loc 7) (.lit (.int (.ofNat 34))))) .nil)
noncomputable def n_law_cooked_E4 : N := (.bin .Add (.loc 2) (.idx (.loc 8) (.lit (.int (.ofNat 0)))))
noncomputable def n_law_cooked_E5 : N := (.bin .Add (.loc 3) (.idx (.loc 8) (.lit (.int (.ofNat 1)))))
noncomputable def n_law_cooked_E6 : N := (.or (.loc 4) (.cmp .Gt (.loc 7) (.lit (.int (.ofNat 26)))))
noncomputable def n_law_cooked_L7b : N := (.cons (.asg 7 n_law_cooked_E2) (.cons (.sif (.cmp .Gt (.loc 7) (.lit (.int (.ofNat 33)))) n_law_cooked_B3 .nil) (.cons (.asg 8 (.idx (.loc 5) (.loc 7))) (.cons (.asg 2 n_law_cooked_E4) (.cons (.asg 3 n_law_cooked_E5) (.cons (.asg 4 n_law_cooked_E6) .nil))))))
noncomputable def n_law_cooked_E8 : N := (.bin .Add (.bin .Add (.loc 1) (.loc 2)) (.loc 1))
noncomputable def n_law_cooked_E9 : N := (.call 521 (.cons (.loc 9) (.cons (.loc 10) .nil)))
noncomputable def n_law_cooked_E10 : N := (.ite (.cmp .Eq (.loc 1) (.lit (.str [nat_lit 96]))) (.lit (.int (.ofNat 6))) (.lit (.int (.ofNat 4))))
noncomputable def n_law_cooked_C11e : N := (.tup (.cons (.attr (.loc 0) 6) (.cons (.attr (.loc 0) 3) .nil)))
noncomputable def n_law_cooked_C11c : N := (.lit (.bool .true))
noncomputable def n_law_cooked_E12 : N := (.and (.cmp .Eq (.bi .len (.cons (.loc 11) .nil)) (.lit (.int (.ofNat 2)))) (.cmp .Eq (.loc 13) (.ite (.loc 4) (.list (.cons (.tup (.cons (.lit (.int (.ofNat 1127))) (.cons (.lit (.int (.ofNat 0))) .nil))) .nil)) (.list .nil))))
noncomputable def n_law_cooked_E13 : N := (.and (.loc 14) (.and (.cmp .Eq (.attr (.loc 15) 0) (.loc 12)) (.and (.cmp .Eq (.attr (.loc 15) 3) (.lit (.int (.ofNat 0)))) (.cmp .Eq (.attr (.loc 15) 4) (.bi .len (.cons (.loc 9) .nil))))))
noncomputable def n_law_cooked_E14 : N := (.call 409 (.cons (.loc 9) (.cons (.lit (.int (.ofNat 0))) .nil)))
noncomputable def n_law_cooked_E15 : N := (.and (.loc 14) (.cmp .Eq (.slc (.loc 16) (.lit (.int (.ofNat 1))) (.lit .none)) (.tup (.cons (.bi .len (.cons (.loc 9) .nil)) (.cons (.ite (.loc 4) (.lit (.int (.ofNat 2))) (.lit (.int (.ofNat 1)))) .nil)))))
noncomputable def n_law_cooked_E16 : N := (.call 388 (.cons (.loc 9) (.cons (.lit (.int (.ofNat 0))) .nil)))
noncomputable def n_law_cooked_E17 : N := (.and (.loc 14) (.cmp .Eq (.slc (.loc 16) (.lit (.int (.ofNat 1))) (.lit .none)) (.tup (.cons (.bi .len (.cons (.loc 9) .nil)) (.cons (.not (.loc 4)) .nil)))))
noncomputable def n_law_cooked_T18 : N := (.cons (.asg 9 n_law_cooked_E8) (.cons (.asg 10 (.call 210 .nil)) (.cons (.asg 11 n_law_cooked_E9) (.cons (.asg 12 n_law_cooked_E10) (.cons (.asg 13 (.comp n_law_cooked_C11e n_law_cooked_C11c (.attr (.loc 10) 9))) (.cons (.asg 14 n_law_cooked_E12) (.cons (.asg 15 (.idx (.loc 11) (.lit (.int (.ofNat 0))))) (.cons (.asg 14 n_law_cooked_E13) (.cons (.sif (.cmp .Eq (.loc 1) (.lit (.str [nat_lit 96]))) (.cons (.asg 16 n_law_cooked_E14) (.cons (.asg 14 n_law_cooked_E15) .nil)) (.cons (.asg 16 n_law_cooked_E16) (.cons (.asg 14 n_law_cooked_E17) .nil))) (.cons (.rtn (.tup (.cons (.loc 3) (.cons (.and (.loc 14) (.or (.loc 4) (.and (.cmp .Eq (.attr (.loc 15) 1) (.loc 3)) (.cmp .Eq (.idx (.loc 16) (.lit (.int (.ofNat 0)))) (.loc 3))))) .nil)))) .nil))))))))))
noncomputable def n_law_cooked : N := (.cons (.asg 1 n_law_cooked_E1) (.cons (.asg 2 (.lit (.str []))) (.cons (.asg 3 (.lit (.str []))) (.cons (.asg 4 (.lit (.bool .false))) (.cons (.asg 5 (.call 830 .nil)) (.cons (.for (.inr 6) (.bi .rng (.cons (.call 809 (.cons (.loc 0) (.cons (.lit (.int (.ofNat 13))) .nil))) .nil)) n_law_cooked_L7b) n_law_cooked_T18))))))
noncomputable def n_law_name_E1 : N := (.call 809 (.cons (.loc 0) (.cons (.lit (.int (.ofNat 8))) .nil)))
noncomputable def n_law_name_E2 : N := (.tup (.cons (.lit (.str [nat_lit 103, nat_lit 101, nat_lit 116])) (.cons (.lit (.str [nat_lit 115, nat_lit 101, nat_lit 116])) (.cons (.lit (.str [nat_lit 117, nat_lit 110, nat_lit 100, nat_lit 101, nat_lit 102, nat_lit 105, nat_lit 110, nat_lit 101, nat_lit 100])) (.cons (.lit (.str [nat_lit 111, nat_lit 102])) (.cons (.lit (.str [nat_lit 108, nat_lit 101, nat_lit 116])) (.cons (.lit (.str [nat_lit 97, nat_lit 115])) (.cons (.lit (.str [nat_lit 115, nat_lit 116, nat_lit 97, nat_lit 116, nat_lit 105, nat_lit 99])) (.cons (.lit (.str [nat_lit 99, nat_lit 111, nat_lit 110, nat_lit 115, nat_lit 116, nat_lit 114, nat_lit 117, nat_lit 99, nat_lit 116, nat_lit 111, nat_lit 114])) (.cons (.lit (.str [nat_lit 78, nat_lit 97, nat_lit 78])) (.cons (.lit (.str [nat_lit 97, nat_lit 110, nat_lit 121])) (.cons (.lit (.str [nat_lit 36])) (.cons (.lit (.str [nat_lit 95])) .nil)))))))))))))
noncomputable def n_law_name_B3 : N := (.cons (.asg 2 n_law_name_E2) (.cons (.asg 3 (.bin .Add (.call 816 .nil) (.loc 2))) (.cons (.rtn (.tup (.cons (.idx (.loc 3) (.call 809 (.cons (.loc 0) (.cons (.lit (.int (.ofNat 48))) .nil)))) (.cons (.lit (.bool .true)) .nil)))) .nil)))
noncomputable def n_law_name_E4 : N := (.tup (.cons (.lit (.str [nat_lit 48])) (.cons (.lit (.str [nat_lit 48, nat_lit 48])) (.cons (.lit (.str [nat_lit 48, nat_lit 48, nat_lit 55])) (.cons (.lit (.str [nat_lit 55])) (.cons (.lit (.str [nat_lit 49, nat_lit 50, nat_lit 51, nat_lit 52, nat_lit 53, nat_lit 54, nat_lit 55, nat_lit 56, nat_lit 57, nat_lit 48, nat_lit 49, nat_lit 50, nat_lit 51, nat_lit 52, nat_lit 53])) (.cons (.lit (.str [nat_lit 57, nat_lit 57, nat_lit 57, nat_lit 57, nat_lit 57, nat_lit 57, nat_lit 57, nat_lit 57, nat_lit 57, nat_lit 57, nat_lit 57, nat_lit 57, nat_lit 57, nat_lit 57, nat_lit 57])) (.cons (.lit (.str [nat_lit 49, nat_lit 48, nat_lit 48, nat_lit 48, nat_lit 48, nat_lit 48, nat_lit 48, nat_lit 48, nat_lit 48, nat_lit 48, nat_lit 48, nat_lit 48, nat_lit 48, nat_lit 48, nat_lit 48, nat_lit 48])) (.cons (.lit (.str [nat_lit 57, nat_lit 48, nat_lit 48, nat_lit 55, nat_lit 49, nat_lit 57, nat_lit 57, nat_lit 50, nat_lit 53, nat_lit 52, nat_lit 55, nat_lit 52, nat_lit 48, nat_lit 57, nat_lit 57, nat_lit 49])) (.cons (.lit (.str [nat_lit 57, nat_lit 48, nat_lit 48, nat_lit 55, nat_lit 49, nat_lit 57, nat_lit 57, nat_lit 50, nat_lit 53, nat_lit 52, nat_lit 55, nat_lit 52, nat_lit 48, nat_lit 57, nat_lit 57, nat_lit 50])) (.cons (.lit (.str [nat_lit 48, nat_lit 49, nat_lit 50, nat_lit 51, nat_lit 52, nat_lit 53, nat_lit 54, nat_lit 55, nat_lit 56, nat_lit 57, nat_lit 48, nat_lit 49, nat_lit 50, nat_lit 51, nat_lit 52])) (.cons (.lit (.str [nat_lit 49, nat_lit 101, nat_lit 51])) (.cons (.lit (.str [nat_lit 49, nat_lit 95, nat_lit 48])) (.cons (.lit (.str [nat_lit 45, nat_lit 49])) (.cons (.lit (.str [nat_lit 49, nat_lit 46, nat_lit 53])) (.cons (.lit (.str [nat_lit 52, nat_lit 50, nat_lit 57, nat_lit 52, nat_lit 57, nat_lit 54, nat_lit 55, nat_lit 50, nat_lit 57, nat_lit 53])) (.cons (.lit (.str [nat_lit 48, nat_lit 120, nat_lit 49])) (.cons (.lit (.str [nat_lit 49, nat_lit 48])) (.cons (.lit (.str [nat_lit 49, nat_lit 97])) .nil)))))))))))))))))))
noncomputable def n_law_name_B5 : N := (.cons (.asg 4 n_law_name_E4) (.cons (.rtn (.tup (.cons (.idx (.loc 4) (.call 809 (.cons (.loc 0) (.cons (.lit (.int (.ofNat 18))) .nil)))) (.cons (.lit (.bool .true)) .nil)))) .nil))
noncomputable def n_law_name_E6 : N := (.bin .Add (.loc 5) (.call 823 (.cons (.loc 0) .nil)))
noncomputable def n_law_name_L7b : N := (.cons (.asg 5 n_law_name_E6) .nil)
noncomputable def n_law_name_T8 : N := (.cons (.rtn (.tup (.cons (.loc 5) (.cons (.lit (.bool .true)) .nil)))) .nil)
noncomputable def n_law_name : N := (.cons (.asg 1 n_law_name_E1) (.cons (.sif (.cmp .Eq (.loc 1) (.lit (.int (.ofNat 5)))) n_law_name_B3 .nil) (.cons (.sif (.cmp .Eq (.loc 1) (.lit (.int (.ofNat 6)))) n_law_name_B5 .nil) (.cons (.sif (.cmp .Eq (.loc 1) (.lit (.int (.ofNat 7)))) (.cons (.rtn (.call 840 (.cons (.loc 0) .nil))) .nil) .nil) (.cons (.asg 5 (.lit (.str []))) (.cons (.for (.inr 6) (.bi .rng (.cons (.call 809 (.cons (.loc 0) (.cons (.lit (.int (.ofNat 13))) .nil))) .nil)) n_law_name_L7b) n_law_name_T8))))))
noncomputable def n_law_kind_E1 : N := (.cmp .Gt (.bi .len (.cons (.loc 0) .nil)) (.lit (.int (.ofNat 0))))
noncomputable def n_law_kind_E2 : N := (.and (.loc 1) (.cmp .In (.loc 3) (.lit (.str s_LAW64))))
noncomputable def n_law_kind_E3 : N := (.ite (.cmp .In (.loc 3) (.lit (.str s_DIGIT_LETTERS))) (.lit (.int (.ofNat 1))) (.lit (.int (.ofNat 0))))
noncomputable def n_law_kind_L4b : N := (.cons (.asg 1 n_law_kind_E2) (.cons (.aug 2 .Add n_law_kind_E3) .nil))
noncomputable def n_law_kind_B5 : N := (.cons (.rtn (.ite (.cmp .In (.loc 0) (.call 816 .nil)) (.lit (.int (.ofNat 2))) (.lit (.int (.ofNat 1))))) .nil)
noncomputable def n_law_kind_T6 : N := (.cons (.sif (.and (.loc 1) (.cmp .NotIn (.idx (.loc 0) (.lit (.int (.ofNat 0)))) (.lit (.str s_DIGIT_LETTERS)))) n_law_kind_B5 .nil) (.cons (.sif (.and (.cmp2 .Lt .Lt (.lit (.int (.ofNat 0))) (.loc 2) (.lit (.int (.ofNat 16)))) (.and (.cmp .Eq (.loc 2) (.bi .len (.cons (.loc 0) .nil))) (.or (.cmp .NotEq (.idx (.loc 0) (.lit (.int (.ofNat 0)))) (.lit (.str [nat_lit 48]))) (.cmp .Eq (.loc 2) (.lit (.int (.ofNat 1))))))) (.cons (.rtn (.lit (.int (.ofNat 3)))) .nil) .nil) (.cons (.rtn (.lit (.int (.ofNat 4)))) .nil)))
noncomputable def n_law_kind : N := (.cons (.asg 1 n_law_kind_E1) (.cons (.asg 2 (.lit (.int (.ofNat 0)))) (.cons (.for (.inr 3) (.loc 0) n_law_kind_L4b) n_law_kind_T6)))
noncomputable def n_law_number_E1 : N := (.bin .Add (.bin .Mult (.loc 1) (.lit (.int (.ofNat 10)))) (.meth (.lit (.str s_DIGIT_LETTERS)) 4 (.cons (.loc 2) .nil)))
noncomputable def n_law_number_L2b : N := (.cons (.asg 1 n_law_number_E1) .nil)
noncomputable def n_law_number_T3 : N := (.cons (.rtn (.loc 1)) .nil)
noncomputable def n_law_number : N := (.cons (.asg 1 (.lit (.int (.ofNat 0)))) (.cons (.for (.inr 2) (.loc 0) n_law_number_L2b) n_law_number_T3))
noncomputable def n_law_hex_E1 : N := (.meth (.lit (.str s_HEX22)) 4 (.cons (.loc 3) .nil))
noncomputable def n_law_hex_E2 : N := (.bin .Add (.bin .Mult (.loc 2) (.lit (.int (.ofNat 16)))) (.ite (.cmp .Lt (.loc 4) (.lit (.int (.ofNat 16)))) (.loc 4) (.bin .Sub (.loc 4) (.lit (.int (.ofNat 6))))))
noncomputable def n_law_hex_L3b : N := (.cons (.asg 4 n_law_hex_E1) (.cons (.sif (.cmp .Lt (.loc 4) (.lit (.int (.ofNat 0)))) (.cons (.rtn (.lit (.str []))) .nil) .nil) (.cons (.asg 2 n_law_hex_E2) .nil)))
noncomputable def n_law_hex_T4 : N := (.cons (.sif (.or (.cmp .NotEq (.bi .len (.cons (.loc 0) .nil)) (.loc 1)) (.cmp .Gt (.loc 2) (.lit (.int (.ofNat 65535))))) (.cons (.rtn (.lit (.str []))) .nil) .nil) (.cons (.rtn (.bi .chr (.cons (.loc 2) .nil))) .nil))
noncomputable def n_law_hex : N := (.cons (.asg 2 (.lit (.int (.ofNat 0)))) (.cons (.for (.inr 3) (.loc 0) n_law_hex_L3b) n_law_hex_T4))
noncomputable def n_law_cook_E1 : N := (.lit (.dict [[nat_lit 110], [nat_lit 116], [nat_lit 114], [nat_lit 98], [nat_lit 118], [nat_lit 102], [nat_lit 48]] [(.str [nat_lit 10]), (.str [nat_lit 9]), (.str [nat_lit 13]), (.str [nat_lit 8]), (.str [nat_lit 11]), (.str [nat_lit 12]), (.str [nat_lit 0])]))
noncomputable def n_law_cook_E2 : N := (.slc (.loc 0) (.bin .Add (.loc 4) (.lit (.int (.ofNat 1)))) (.bin .Add (.loc 4) (.lit (.int (.ofNat 2)))))
noncomputable def n_law_cook_B3 : N := (.cons (.asg 3 (.bin .Add (.loc 3) (.loc 5))) (.cons (.aug 4 .Add (.lit (.int (.ofNat 1)))) .nil))
noncomputable def n_law_cook_E4 : N := (.ite (.cmp .Eq (.loc 6) (.lit (.str [nat_lit 120]))) (.lit (.int (.ofNat 2))) (.lit (.int (.ofNat 4))))
noncomputable def n_law_cook_E5 : N := (.call 868 (.cons (.slc (.loc 0) (.bin .Add (.loc 4) (.lit (.int (.ofNat 2)))) (.bin .Add (.bin .Add (.loc 4) (.lit (.int (.ofNat 2)))) (.loc 7))) (.cons (.loc 7) .nil)))
noncomputable def n_law_cook_B6 : N := (.cons (.asg 7 n_law_cook_E4) (.cons (.asg 8 n_law_cook_E5) (.cons (.sif (.cmp .Eq (.loc 8) (.lit (.str []))) (.cons (.rtn (.lit .none)) .nil) .nil) (.cons (.asg 3 (.bin .Add (.loc 3) (.loc 8))) (.cons (.aug 4 .Add (.bin .Add (.lit (.int (.ofNat 2))) (.loc 7))) .nil)))))
noncomputable def n_law_cook_E7 : N := (.bin .Add (.loc 3) (.meth (.loc 2) 5 (.cons (.loc 6) (.cons (.loc 6) .nil))))
noncomputable def n_law_cook_B8 : N := (.cons (.asg 3 n_law_cook_E7) (.cons (.aug 4 .Add (.lit (.int (.ofNat 2)))) .nil))
noncomputable def n_law_cook_B9 : N := (.cons (.sif (.and (.cmp .Eq (.loc 6) (.lit (.str [nat_lit 48]))) (.and (.cmp .NotEq (.slc (.loc 0) (.bin .Add (.loc 4) (.lit (.int (.ofNat 2)))) (.bin .Add (.loc 4) (.lit (.int (.ofNat 3))))) (.lit (.str []))) (.cmp .In (.slc (.loc 0) (.bin .Add (.loc 4) (.lit (.int (.ofNat 2)))) (.bin .Add (.loc 4) (.lit (.int (.ofNat 3))))) (.lit (.str s_DIGIT_LETTERS))))) (.cons (.rtn (.lit .none)) .nil) n_law_cook_B8) .nil)
noncomputable def n_law_cook_B10 : N := (.cons (.sif (.or (.cmp .Eq (.loc 6) (.lit (.str []))) (.cmp .In (.loc 6) (.lit (.str [nat_lit 49, nat_lit 50, nat_lit 51, nat_lit 52, nat_lit 53, nat_lit 54, nat_lit 55, nat_lit 56, nat_lit 57, nat_lit 10, nat_lit 13, nat_lit 8232, nat_lit 8233])))) (.cons (.rtn (.lit .none)) .nil) n_law_cook_B9) .nil)
noncomputable def n_law_cook_B11 : N := (.cons (.sif (.or (.cmp .Eq (.loc 6) (.lit (.str [nat_lit 120]))) (.cmp .Eq (.loc 6) (.lit (.str [nat_lit 117])))) n_law_cook_B6 n_law_cook_B10) .nil)
noncomputable def n_law_cook_L12c : N := (.cmp .Lt (.loc 4) (.bi .len (.cons (.loc 0) .nil)))
noncomputable def n_law_cook_L12b : N := (.cons (.asg 5 (.idx (.loc 0) (.loc 4))) (.cons (.asg 6 n_law_cook_E2) (.cons (.sif (.or (.cmp .In (.loc 5) (.tup (.cons (.loc 1) (.cons (.lit (.str [nat_lit 10])) (.cons (.lit (.str [nat_lit 13])) .nil))))) (.and (.cmp .Eq (.loc 1) (.lit (.str [nat_lit 96]))) (.and (.cmp .Eq (.loc 5) (.lit (.str [nat_lit 36]))) (.cmp .Eq (.loc 6) (.lit (.str [nat_lit 123])))))) (.cons (.rtn (.lit .none)) .nil) .nil) (.cons (.sif (.cmp .NotEq (.loc 5) (.lit (.str [nat_lit 92]))) n_law_cook_B3 n_law_cook_B11) .nil))))
noncomputable def n_law_cook_T13 : N := (.cons (.rtn (.loc 3)) .nil)
noncomputable def n_law_cook : N := (.cons (.asg 2 n_law_cook_E1) (.cons (.asg 3 (.lit (.str []))) (.cons (.asg 4 (.lit (.int (.ofNat 0)))) (.cons (.whl n_law_cook_L12c n_law_cook_L12b) n_law_cook_T13))))
noncomputable def n_law_same_E1 : N := (.call 521 (.cons (.loc 0) (.cons (.loc 2) .nil)))
noncomputable def n_law_same_C2e : N := (.tup (.cons (.attr (.loc 0) 0) (.cons (.attr (.loc 0) 1) (.cons (.attr (.loc 0) 3) (.cons (.attr (.loc 0) 4) .nil)))))
noncomputable def n_law_same_C2c : N := (.lit (.bool .true))
noncomputable def n_law_same_C3e : N := (.tup (.cons (.attr (.loc 0) 6) (.cons (.attr (.loc 0) 3) .nil)))
noncomputable def n_law_same_C3c : N := (.lit (.bool .true))
noncomputable def n_law_same_C4e : N := (.tup (.cons (.lit (.int (.ofNat 1127))) (.cons (.idx (.loc 0) (.lit (.int (.ofNat 2)))) .nil)))
noncomputable def n_law_same_C4c : N := (.call 835 (.cons (.idx (.loc 0) (.lit (.int (.ofNat 1)))) .nil))
noncomputable def n_law_same_L5b : N := (.cons (.sif (.and (.cmp .Eq (.attr (.loc 4) 0) (.lit (.int (.ofNat 3)))) (.cmp .NotEq (.attr (.loc 4) 2) (.call 861 (.cons (.attr (.loc 4) 1) .nil)))) (.cons (.rtn (.list .nil)) .nil) .nil) .nil)
noncomputable def n_law_same_T6 : N := (.cons (.rtn (.loc 3)) .nil)
noncomputable def n_law_same : N := (.cons (.asg 2 (.call 210 .nil)) (.cons (.asg 3 n_law_same_E1) (.cons (.asg 5 (.comp n_law_same_C2e n_law_same_C2c (.loc 3))) (.cons (.asg 6 (.comp n_law_same_C3e n_law_same_C3c (.attr (.loc 2) 9))) (.cons (.asg 7 (.comp n_law_same_C4e n_law_same_C4c (.loc 1))) (.cons (.sif (.or (.cmp .NotEq (.loc 5) (.bin .Add (.loc 1) (.list (.cons (.tup (.cons (.lit (.int (.ofNat 0))) (.cons (.lit (.str [])) (.cons (.bi .len (.cons (.loc 0) .nil)) (.cons (.bi .len (.cons (.loc 0) .nil)) .nil))))) .nil)))) (.cmp .NotEq (.loc 6) (.loc 7))) (.cons (.rtn (.list .nil)) .nil) .nil) (.cons (.for (.inr 4) (.loc 3) n_law_same_L5b) n_law_same_T6)))))))
noncomputable def n_law_written_B1 : N := (.cons (.asg 3 (.call 71 (.cons (.loc 0) .nil))) (.cons (.rtn (.tup (.cons (.loc 3) (.cons (.list (.cons (.tup (.cons (.call 854 (.cons (.loc 0) .nil)) (.cons (.loc 0) (.cons (.loc 2) (.cons (.bin .Add (.loc 2) (.bi .len (.cons (.loc 3) .nil))) .nil))))) .nil)) .nil)))) .nil))
noncomputable def n_law_written_E2 : N := (.ite (.cmp .Eq (.loc 1) (.lit (.int (.ofNat 1)))) (.call 36 (.cons (.loc 0) .nil)) (.bin .Add (.bin .Add (.lit (.str [nat_lit 96])) (.call 43 (.cons (.loc 0) .nil))) (.lit (.str [nat_lit 96]))))
noncomputable def n_law_written_E3 : N := (.ite (.cmp .Eq (.loc 1) (.lit (.int (.ofNat 1)))) (.lit (.int (.ofNat 4))) (.lit (.int (.ofNat 6))))
noncomputable def n_law_written_B4 : N := (.cons (.asg 4 (.loc 0)) (.cons (.asg 5 (.lit (.int (.ofNat 3)))) .nil))
noncomputable def n_law_written_E5 : N := (.bin .Add (.bin .Add (.loc 2) (.lit (.int (.ofNat 1)))) (.bi .len (.cons (.loc 4) .nil)))
noncomputable def n_law_written_E6 : N := (.tup (.cons (.lit (.int (.ofNat 5))) (.cons (.lit (.str [nat_lit 91])) (.cons (.loc 2) (.cons (.bin .Add (.loc 2) (.lit (.int (.ofNat 1)))) .nil)))))
noncomputable def n_law_written : N := (.cons (.sif (.cmp .Eq (.loc 1) (.lit (.int (.ofNat 0)))) n_law_written_B1 .nil) (.cons (.asg 4 n_law_written_E2) (.cons (.asg 5 n_law_written_E3) (.cons (.sif (.and (.cmp .Eq (.loc 1) (.lit (.int (.ofNat 1)))) (.cmp .Eq (.call 854 (.cons (.loc 0) .nil)) (.lit (.int (.ofNat 3))))) n_law_written_B4 .nil) (.cons (.asg 6 n_law_written_E5) (.cons (.asg 7 n_law_written_E6) (.cons (.rtn (.tup (.cons (.bin .Add (.bin .Add (.lit (.str [nat_lit 91])) (.loc 4)) (.lit (.str [nat_lit 93]))) (.cons (.list (.cons (.loc 7) (.cons (.tup (.cons (.loc 5) (.cons (.loc 0) (.cons (.bin .Add (.loc 2) (.lit (.int (.ofNat 1)))) (.cons (.loc 6) .nil))))) (.cons (.tup (.cons (.lit (.int (.ofNat 5))) (.cons (.lit (.str [nat_lit 93])) (.cons (.loc 6) (.cons (.bin .Add (.loc 6) (.lit (.int (.ofNat 1)))) .nil))))) .nil)))) .nil)))) .nil)))))))
noncomputable def n_law_judged : N := (.cons (.asg 1 (.call 71 (.cons (.loc 0) .nil))) (.cons (.asg 2 (.call 36 (.cons (.loc 0) .nil))) (.cons (.sif (.cmp .NotEq (.loc 1) (.ite (.cmp .Eq (.call 854 (.cons (.loc 0) .nil)) (.lit (.int (.ofNat 4)))) (.loc 2) (.loc 0))) (.cons (.rtn (.lit (.bool .false))) .nil) .nil) (.cons (.sif (.or (.cmp .Lt (.bi .len (.cons (.loc 2) .nil)) (.lit (.int (.ofNat 2)))) (.or (.cmp .NotEq (.idx (.loc 2) (.lit (.int (.ofNat 0)))) (.lit (.str [nat_lit 34]))) (.or (.cmp .NotEq (.idx (.loc 2) (.neg (.lit (.int (.ofNat 1))))) (.lit (.str [nat_lit 34]))) (.cmp .NotEq (.call 875 (.cons (.slc (.loc 2) (.lit (.int (.ofNat 1))) (.neg (.lit (.int (.ofNat 1))))) (.cons (.lit (.str [nat_lit 34])) .nil))) (.loc 0))))) (.cons (.rtn (.lit (.bool .false))) .nil) .nil) (.cons (.rtn (.cmp .Eq (.call 875 (.cons (.call 43 (.cons (.loc 0) .nil)) (.cons (.lit (.str [nat_lit 96])) .nil))) (.loc 0))) .nil)))))
noncomputable def n_law_keys_E1 : N := (.slc (.loc 2) (.lit (.int (.ofNat 1))) (.lit .none))
noncomputable def n_law_keys_B2 : N := (.cons (.expr (.meth (.loc 4) 0 (.cons (.tup (.cons (.lit (.int (.ofNat 5))) (.cons (.lit (.str [nat_lit 44])) (.cons (.bi .len (.cons (.loc 3) .nil)) (.cons (.bin .Add (.bi .len (.cons (.loc 3) .nil)) (.lit (.int (.ofNat 1)))) .nil))))) .nil))) (.cons (.asg 3 (.bin .Add (.loc 3) (.loc 2))) .nil))
noncomputable def n_law_keys_E3 : N := (.call 887 (.cons (.idx (.loc 0) (.loc 5)) (.cons (.loc 6) (.cons (.bi .len (.cons (.loc 3) .nil)) .nil))))
noncomputable def n_law_keys_L4b : N := (.cons (.sif (.cmp .Gt (.bi .len (.cons (.loc 4) .nil)) (.lit (.int (.ofNat 0)))) n_law_keys_B2 .nil) (.cons (.asgM [nat_lit 7, nat_lit 8] n_law_keys_E3) (.cons (.asg 3 (.bin .Add (.loc 3) (.loc 7))) (.cons (.expr (.meth (.loc 4) 1 (.cons (.loc 8) .nil))) .nil))))
noncomputable def n_law_keys_L5b : N := (.cons (.for (.inr 6) (.tup (.cons (.lit (.int (.ofNat 0))) (.cons (.idx (.loc 1) (.loc 5)) .nil))) n_law_keys_L4b) .nil)
noncomputable def n_law_keys_E6 : N := (.call 880 (.cons (.loc 3) (.cons (.loc 4) .nil)))
noncomputable def n_law_keys_L7b : N := (.cons (.asg 14 (.not (.call 835 (.cons (.loc 11) .nil)))) (.cons (.sif (.and (.cmp .Eq (.loc 10) (.lit (.int (.ofNat 4)))) (.and (.cmp .Eq (.idx (.loc 3) (.loc 12)) (.lit (.str [nat_lit 34]))) (.cmp .NotEq (.call 388 (.cons (.loc 3) (.cons (.loc 12) .nil))) (.tup (.cons (.loc 11) (.cons (.loc 13) (.cons (.loc 14) .nil))))))) (.cons (.rtn (.lit (.bool .false))) .nil) .nil) (.cons (.sif (.and (.cmp .Eq (.loc 10) (.lit (.int (.ofNat 6)))) (.cmp .NotEq (.call 409 (.cons (.loc 3) (.cons (.loc 12) .nil))) (.tup (.cons (.loc 11) (.cons (.loc 13) (.cons (.ite (.loc 14) (.lit (.int (.ofNat 1))) (.lit (.int (.ofNat 2)))) .nil)))))) (.cons (.rtn (.lit (.bool .false))) .nil) .nil) .nil)))
noncomputable def n_law_keys_E8 : N := (.call 742 (.cons (.loc 9) (.cons (.loc 15) .nil)))
noncomputable def n_law_keys_L9b : N := (.cons (.sif (.and (.cmp .Gt (.loc 5) (.lit (.int (.ofNat 0)))) (.not (.meth (.loc 16) 13 (.cons (.lit (.str [nat_lit 44])) .nil)))) (.cons (.rtn (.lit (.bool .false))) .nil) .nil) (.cons (.sif (.cmp .NotEq (.call 802 (.cons (.loc 16) .nil)) (.idx (.loc 0) (.bin .FloorDiv (.loc 5) (.lit (.int (.ofNat 2)))))) (.cons (.rtn (.lit (.bool .false))) .nil) .nil) .nil))
noncomputable def n_law_keys_T10 : N := (.cons (.rtn (.and (.cmp .Eq (.attr (.meth (.loc 16) 9 .nil) 0) (.lit (.int (.ofNat 0)))) (.cmp .Eq (.bi .len (.cons (.attr (.loc 15) 9) .nil)) (.lit (.int (.ofNat 0)))))) .nil)
noncomputable def n_law_keys_T11 : N := (.cons (.asg 15 (.call 210 .nil)) (.cons (.asg 16 n_law_keys_E8) (.cons (.for (.inr 5) (.bi .rng (.cons (.bin .Mult (.lit (.int (.ofNat 2))) (.bi .len (.cons (.loc 0) .nil))) .nil)) n_law_keys_L9b) n_law_keys_T10)))
noncomputable def n_law_keys_T12 : N := (.cons (.asg 9 n_law_keys_E6) (.cons (.sif (.cmp .Eq (.bi .len (.cons (.loc 9) .nil)) (.lit (.int (.ofNat 0)))) (.cons (.rtn (.lit (.bool .false))) .nil) .nil) (.cons (.for (.inl [nat_lit 10, nat_lit 11, nat_lit 12, nat_lit 13]) (.loc 4) n_law_keys_L7b) n_law_keys_T11)))
noncomputable def n_law_keys : N := (.cons (.asg 3 n_law_keys_E1) (.cons (.asg 4 (.list .nil)) (.cons (.for (.inr 5) (.bi .rng (.cons (.bi .len (.cons (.loc 0) .nil)) .nil)) n_law_keys_L5b) n_law_keys_T12)))
noncomputable def n_law_holes_E1 : N := (.bin .Add (.bi .len (.cons (.call 43 (.cons (.loc 0) .nil)) .nil)) (.lit (.int (.ofNat 3))))
noncomputable def n_law_holes_E2 : N := (.bin .Add (.bin .Add (.lit (.str [nat_lit 96])) (.call 43 (.cons (.loc 2) .nil))) (.lit (.str [nat_lit 96])))
noncomputable def n_law_holes_E3 : N := (.tup (.cons (.tup (.cons (.lit (.str [nat_lit 120])) (.cons (.list (.cons (.tup (.cons (.lit (.int (.ofNat 1))) (.cons (.lit (.str [nat_lit 120])) (.cons (.loc 4) (.cons (.bin .Add (.loc 4) (.lit (.int (.ofNat 1)))) .nil))))) .nil)) .nil))) (.cons (.tup (.cons (.lit (.str [nat_lit 123, nat_lit 125])) (.cons (.list (.cons (.tup (.cons (.lit (.int (.ofNat 5))) (.cons (.lit (.str [nat_lit 123])) (.cons (.loc 4) (.cons (.bin .Add (.loc 4) (.lit (.int (.ofNat 1)))) .nil))))) (.cons (.tup (.cons (.lit (.int (.ofNat 5))) (.cons (.lit (.str [nat_lit 125])) (.cons (.bin .Add (.loc 4) (.lit (.int (.ofNat 1)))) (.cons (.bin .Add (.loc 4) (.lit (.int (.ofNat 2)))) .nil))))) .nil))) .nil))) (.cons (.tup (.cons (.loc 5) (.cons (.list (.cons (.tup (.cons (.lit (.int (.ofNat 4))) (.cons (.loc 2) (.cons (.loc 4) (.cons (.bin .Add (.loc 4) (.bi .len (.cons (.loc 5) .nil))) .nil))))) .nil)) .nil))) (.cons (.tup (.cons (.loc 5) (.cons (.list (.cons (.tup (.cons (.lit (.int (.ofNat 6))) (.cons (.loc 2) (.cons (.loc 4) (.cons (.bin .Add (.loc 4) (.bi .len (.cons (.loc 5) .nil))) .nil))))) .nil)) .nil))) (.cons (.tup (.cons (.lit (.str [nat_lit 96, nat_lit 36, nat_lit 123, nat_lit 120, nat_lit 125, nat_lit 96])) (.cons (.list (.cons (.tup (.cons (.lit (.int (.ofNat 7))) (.cons (.lit (.str [])) (.cons (.loc 4) (.cons (.bin .Add (.loc 4) (.lit (.int (.ofNat 3)))) .nil))))) (.cons (.tup (.cons (.lit (.int (.ofNat 1))) (.cons (.lit (.str [nat_lit 120])) (.cons (.bin .Add (.loc 4) (.lit (.int (.ofNat 3)))) (.cons (.bin .Add (.loc 4) (.lit (.int (.ofNat 4)))) .nil))))) (.cons (.tup (.cons (.lit (.int (.ofNat 9))) (.cons (.lit (.str [])) (.cons (.bin .Add (.loc 4) (.lit (.int (.ofNat 4)))) (.cons (.bin .Add (.loc 4) (.lit (.int (.ofNat 6)))) .nil))))) .nil)))) .nil))) .nil))))))
noncomputable def n_law_holes_E4 : N := (.bin .Add (.bin .Add (.bin .Add (.lit (.str [nat_lit 96])) (.call 43 (.cons (.loc 0) .nil))) (.lit (.str [nat_lit 36, nat_lit 123]))) (.loc 7))
noncomputable def n_law_holes_E5 : N := (.bin .Add (.bin .Add (.bin .Add (.loc 9) (.lit (.str [nat_lit 125]))) (.call 43 (.cons (.loc 1) .nil))) (.lit (.str [nat_lit 96])))
noncomputable def n_law_holes_E6 : N := (.bin .Add (.bin .Add (.list (.cons (.tup (.cons (.lit (.int (.ofNat 7))) (.cons (.loc 0) (.cons (.lit (.int (.ofNat 0))) (.cons (.loc 4) .nil))))) .nil)) (.loc 8)) (.list (.cons (.tup (.cons (.lit (.int (.ofNat 9))) (.cons (.loc 1) (.cons (.loc 10) (.cons (.bi .len (.cons (.loc 9) .nil)) .nil))))) .nil)))
noncomputable def n_law_holes : N := (.cons (.asg 4 n_law_holes_E1) (.cons (.asg 5 (.call 36 (.cons (.loc 2) .nil))) (.cons (.sif (.cmp .Eq (.loc 3) (.lit (.int (.ofNat 3)))) (.cons (.asg 5 n_law_holes_E2) .nil) .nil) (.cons (.asg 6 n_law_holes_E3) (.cons (.asgM [nat_lit 7, nat_lit 8] (.idx (.loc 6) (.loc 3))) (.cons (.asg 9 n_law_holes_E4) (.cons (.asg 10 (.bi .len (.cons (.loc 9) .nil))) (.cons (.asg 9 n_law_holes_E5) (.cons (.asg 11 n_law_holes_E6) (.cons (.sif (.cmp .Eq (.bi .len (.cons (.call 880 (.cons (.loc 9) (.cons (.loc 11) .nil))) .nil)) (.lit (.int (.ofNat 0)))) (.cons (.rtn (.lit (.bool .false))) .nil) .nil) (.cons (.sif (.cmp .NotEq (.call 409 (.cons (.loc 9) (.cons (.lit (.int (.ofNat 0))) .nil))) (.tup (.cons (.loc 0) (.cons (.loc 4) (.cons (.ite (.call 835 (.cons (.loc 0) .nil)) (.lit (.int (.ofNat 2))) (.lit (.int (.ofNat 0)))) .nil))))) (.cons (.rtn (.lit (.bool .false))) .nil) .nil) (.cons (.rtn (.cmp .Eq (.call 409 (.cons (.loc 9) (.cons (.loc 10) .nil))) (.tup (.cons (.loc 1) (.cons (.bi .len (.cons (.loc 9) .nil)) (.cons (.ite (.call 835 (.cons (.loc 1) .nil)) (.lit (.int (.ofNat 2))) (.lit (.int (.ofNat 1)))) .nil)))))) .nil))))))))))))
noncomputable def n_law_C1e : N := (.bin .Mod (.loc 0) (.lit (.int (.ofNat 1000003))))
noncomputable def n_law_C1c : N := (.lit (.bool .true))
noncomputable def n_law_E2 : N := (.comp n_law_C1e n_law_C1c (.slc (.loc 0) (.lit .none) (.lit (.int (.ofNat 40)))))
noncomputable def n_law_E3 : N := (.list (.cons (.lit (.int (.ofNat 2))) (.cons (.lit (.int (.ofNat 0))) (.cons (.lit (.int (.ofNat 4))) (.cons (.lit (.int (.ofNat 0))) (.cons (.lit (.int (.ofNat 12))) (.cons (.lit (.int (.ofNat 4))) (.cons (.lit (.int (.ofNat 1))) (.cons (.lit (.int (.ofNat 36))) (.cons (.lit (.int (.ofNat 8))) (.cons (.lit (.int (.ofNat 2))) (.cons (.lit (.int (.ofNat 35))) (.cons (.lit (.int (.ofNat 5))) (.cons (.lit (.int (.ofNat 0))) (.cons (.lit (.int (.ofNat 13))) (.cons (.lit (.int (.ofNat 6))) (.cons (.lit (.int (.ofNat 4))) (.cons (.lit (.int (.ofNat 3))) (.cons (.lit (.int (.ofNat 18))) (.cons (.lit (.int (.ofNat 1))) (.cons (.lit (.int (.ofNat 2))) .nil)))))))))))))))))))))
noncomputable def n_law_E4 : N := (.list (.cons (.lit (.int (.ofNat 0))) (.cons (.loc 0) .nil)))
noncomputable def n_law_B5 : N := (.cons (.asgM [nat_lit 5, nat_lit 6] (.call 847 (.cons (.loc 1) .nil))) (.cons (.sif (.or (.not (.loc 6)) (.not (.call 894 (.cons (.loc 5) .nil)))) (.cons (.rtn (.lit (.bool .false))) .nil) .nil) (.cons (.expr (.meth (.loc 2) 0 (.cons (.loc 5) .nil))) (.cons (.expr (.meth (.loc 3) 0 (.cons (.bin .Add (.lit (.int (.ofNat 1))) (.call 809 (.cons (.loc 1) (.cons (.lit (.int (.ofNat 2))) .nil)))) .nil))) .nil))))
noncomputable def n_law_L6b : N := (.cons (.sif (.cmp .Lt (.bi .len (.cons (.meth (.lit (.str [])) 3 (.cons (.loc 2) .nil)) .nil)) (.lit (.int (.ofNat 25)))) n_law_B5 .nil) .nil)
noncomputable def n_law_E7 : N := (.idx (.tup (.cons (.lit (.str [nat_lit 44, nat_lit 32])) (.cons (.lit (.str [nat_lit 44, nat_lit 10])) (.cons (.lit (.str [nat_lit 44, nat_lit 9, nat_lit 32])) .nil)))) (.call 809 (.cons (.loc 1) (.cons (.lit (.int (.ofNat 3))) .nil))))
noncomputable def n_law_T8 : N := (.cons (.asg 7 n_law_E7) (.cons (.sif (.not (.call 901 (.cons (.loc 2) (.cons (.loc 3) (.cons (.loc 7) .nil))))) (.cons (.rtn (.lit (.bool .false))) .nil) .nil) (.cons (.rtn (.call 908 (.cons (.idx (.loc 2) (.lit (.int (.ofNat 0)))) (.cons (.idx (.loc 2) (.neg (.lit (.int (.ofNat 1))))) (.cons (.idx (.loc 2) (.bin .FloorDiv (.bi .len (.cons (.loc 2) .nil)) (.lit (.int (.ofNat 2))))) (.cons (.call 809 (.cons (.loc 1) (.cons (.lit (.int (.ofNat 5))) .nil))) .nil)))))) .nil)))
noncomputable def n_law : N := (.cons (.asg 0 n_law_E2) (.cons (.sif (.cmp .Eq (.bi .len (.cons (.loc 0) .nil)) (.lit (.int (.ofNat 0)))) (.cons (.asg 0 n_law_E3) .nil) .nil) (.cons (.asg 1 n_law_E4) (.cons (.asg 2 (.list .nil)) (.cons (.asg 3 (.list .nil)) (.cons (.for (.inr 4) (.bi .rng (.cons (.bin .Add (.call 809 (.cons (.loc 1) (.cons (.lit (.int (.ofNat 4))) .nil))) (.lit (.int (.ofNat 1)))) .nil)) n_law_L6b) n_law_T8))))))
noncomputable def n_Diags_put : N := (.cons (.expr (.meth (.attr (.loc 0) 9) 0 (.cons (.call 176 (.cons (.loc 1) (.cons (.loc 2) (.cons (.loc 3) (.cons (.attr (.loc 0) 8) .nil))))) .nil))) .nil)
noncomputable def n_Scanner_take_E1 : N := (.call 325 (.cons (.attr (.loc 0) 1) (.cons (.attr (.loc 0) 3) .nil)))
noncomputable def n_Scanner_take_B2 : N := (.cons (.expr (.meth (.attr (.loc 0) 10) 6 (.cons (.lit (.int (.ofNat 1005))) (.cons (.loc 3) (.cons (.tup (.cons (.lit (.str [nat_lit 42, nat_lit 47])) .nil)) .nil))))) .nil)
noncomputable def n_Scanner_take_E3 : N := (.call 237 (.cons (.lit (.int (.ofNat 0))) (.cons (.lit (.str [])) (.cons (.lit (.int (.ofNat 0))) (.cons (.loc 3) (.cons (.loc 3) (.cons (.loc 1) .nil)))))))
noncomputable def n_Scanner_take_E4 : N := (.call 465 (.cons (.attr (.loc 0) 1) (.cons (.attr (.loc 0) 10) (.cons (.loc 3) (.cons (.loc 1) .nil)))))
noncomputable def n_Scanner_take_B5 : N := (.cons (.expr (.meth (.attr (.loc 0) 10) 6 (.cons (.lit (.int (.ofNat 1127))) (.cons (.loc 3) (.cons (.tup (.cons (.idx (.attr (.loc 0) 1) (.loc 3)) .nil)) .nil))))) (.cons (.setA (.loc 0) 3 (.bin .Add (.loc 3) (.lit (.int (.ofNat 1))))) .nil))
noncomputable def n_Scanner_take_L6c : N := (.cmp .Is (.loc 2) (.lit .none))
noncomputable def n_Scanner_take_L6b : N := (.cons (.asgM [nat_lit 3, nat_lit 4, nat_lit 5] n_Scanner_take_E1) (.cons (.asg 1 (.or (.loc 1) (.loc 4))) (.cons (.setA (.loc 0) 3 (.loc 3)) (.cons (.sif (.not (.loc 5)) n_Scanner_take_B2 .nil) (.cons (.sif (.cmp .GtE (.loc 3) (.bi .len (.cons (.attr (.loc 0) 1) .nil))) (.cons (.asg 2 n_Scanner_take_E3) .nil) (.cons (.asg 2 n_Scanner_take_E4) .nil)) (.cons (.sif (.cmp .Is (.loc 2) (.lit .none)) n_Scanner_take_B5 .nil) .nil))))))
noncomputable def n_Scanner_take_T7 : N := (.cons (.setA (.loc 0) 3 (.attr (.loc 2) 4)) (.cons (.setA (.loc 0) 11 (.loc 2)) (.cons (.rtn (.loc 2)) .nil)))
noncomputable def n_Scanner_take : N := (.cons (.asg 1 (.lit (.bool .false))) (.cons (.asg 2 (.lit .none)) (.cons (.whl n_Scanner_take_L6c n_Scanner_take_L6b) n_Scanner_take_T7)))
noncomputable def n_Scanner_rescan_E1 : N := (.call 458 (.cons (.attr (.loc 0) 1) (.cons (.attr (.loc 0) 10) (.cons (.attr (.loc 1) 3) (.cons (.attr (.loc 1) 5) (.cons (.lit (.int (.ofNat 8))) (.cons (.lit (.int (.ofNat 9))) .nil)))))))
noncomputable def n_Scanner_rescan : N := (.cons (.asg 1 (.attr (.loc 0) 11)) (.cons (.sif (.or (.cmp .Is (.loc 1) (.lit .none)) (.not (.call 472 (.cons (.loc 1) (.cons (.lit (.str [nat_lit 125])) .nil))))) (.cons .bad .nil) .nil) (.cons (.asg 2 n_Scanner_rescan_E1) (.cons (.setA (.loc 0) 3 (.attr (.loc 2) 4)) (.cons (.setA (.loc 0) 11 (.loc 2)) (.cons (.rtn (.loc 2)) .nil))))))
noncomputable def n_Parser_now : N := (.cons (.rtn (.idx (.attr (.loc 0) 12) (.attr (.loc 0) 3))) .nil)
noncomputable def n_Parser_step_E1 : N := (.idx (.attr (.loc 0) 12) (.attr (.loc 0) 3))
noncomputable def n_Parser_step : N := (.cons (.asg 1 n_Parser_step_E1) (.cons (.sif (.cmp .NotEq (.attr (.loc 1) 0) (.lit (.int (.ofNat 0)))) (.cons (.augA (.loc 0) 3 .Add (.lit (.int (.ofNat 1)))) .nil) .nil) (.cons (.rtn (.loc 1)) .nil)))
noncomputable def n_Parser_ahead_E1 : N := (.bin .Sub (.bi .len (.cons (.attr (.loc 0) 12) .nil)) (.lit (.int (.ofNat 1))))
noncomputable def n_Parser_ahead : N := (.cons (.asg 2 (.bin .Add (.attr (.loc 0) 3) (.loc 1))) (.cons (.sif (.cmp .GtE (.loc 2) (.bi .len (.cons (.attr (.loc 0) 12) .nil))) (.cons (.asg 2 n_Parser_ahead_E1) .nil) .nil) (.cons (.rtn (.idx (.attr (.loc 0) 12) (.loc 2))) .nil)))
noncomputable def n_Parser_is_sign : N := (.cons (.rtn (.call 767 (.cons (.idx (.attr (.loc 0) 12) (.attr (.loc 0) 3)) (.cons (.lit (.int (.ofNat 5))) (.cons (.loc 1) .nil))))) .nil)
noncomputable def n_Parser_eat_sign : N := (.cons (.rtn (.call 781 (.cons (.loc 0) (.cons (.lit (.int (.ofNat 5))) (.cons (.loc 1) .nil))))) .nil)
noncomputable def n_Diag : N := (.cons (.loc 1) (.cons (.loc 2) (.cons (.loc 3) (.cons (.loc 4) .nil))))
noncomputable def n_Diags : N := (.cons (.list .nil) (.cons (.loc 1) .nil))
noncomputable def n_Token : N := (.cons (.loc 1) (.cons (.loc 2) (.cons (.loc 3) (.cons (.loc 4) (.cons (.loc 5) (.cons (.loc 6) .nil))))))
noncomputable def n_Scanner : N := (.cons (.loc 1) (.cons (.lit (.int (.ofNat 0))) (.cons (.loc 2) (.cons (.lit .none) .nil))))
noncomputable def n_Parser : N := (.cons (.slc (.loc 1) (.lit .none) (.lit .none)) (.cons (.lit (.int (.ofNat 0))) (.cons (.loc 2) (.cons (.lit (.dict [] [])) (.cons (.lit (.dict [] [])) (.cons (.lit (.dict [] [])) (.cons (.lit (.dict [] [])) (.cons (.lit (.int (.ofNat 0))) (.cons (.tup (.cons (.lit (.str [])) (.cons (.lit (.int (.ofNat 0))) (.cons (.lit (.int (.ofNat 0))) .nil)))) (.cons (.lit (.bool .true)) (.cons (.lit (.int (.ofNat 0))) (.cons (.lit (.int (.ofNat 0))) (.cons (.lit (.int (.ofNat 0))) (.cons (.list .nil) (.cons (.lit (.bool .false)) (.cons (.lit (.bool .false)) (.cons (.lit (.int (.ofNat 0))) (.cons (.list .nil) (.cons (.lit (.dict [] [])) (.cons (.lit (.dict [] [])) (.cons (.list .nil) (.cons (.list .nil) .nil))))))))))))))))))))))
end

section

theorem FnOk.le {X : Cf} {n f : Nat} {sp run : Fn} (h : ∀ args, Le (sp args) (run args)) (ok : FnOk X n f run) : FnOk X n f sp := by
  rcases ok with ok | ⟨hk, ok⟩
  · refine .inl fun vs H => ?_
    cases e : sp vs H with
    | none => rfl
    | some p => have := h vs H p e; rw [ok] at this; cases this
  · exact .inr ⟨hk, fun A t vs xs R r H I p e => ok A t vs xs R r H I p (h vs H p e)⟩

noncomputable def natI : Int → Option Nat
  | .ofNat n => some n
  | .negSucc _ => none
noncomputable def natO (v : V) : Option Nat := (intO v).bind natI
theorem natO_eq {v : V} {n : Nat} (h : natO v = some n) : v = .int n := by
  obtain ⟨i, hi, h⟩ := Option.bind_eq_some_iff.mp h
  rw [intO_eq hi]
  cases i <;> cases h; rfl
theorem chrO_eq {v : V} {c : Nat} (h : chrO v = some c) : v = .str [c] := strO_eq (chr_str h)
noncomputable def fnC (g : Nat → M V) : Fn := fun args => oB (one1 args) fun v => oB (chrO v) g
noncomputable def fnS (g : List Nat → M V) : Fn := fun args => oB (one1 args) fun v => oB (strO v) g
noncomputable def fnSN (g : List Nat → Nat → M V) : Fn := fun args => oB (two2 args) fun p => oB (strO p.1) fun s => oB (natO p.2) fun n => g s n
noncomputable def fnN (g : Nat → M V) : Fn := fun args => oB (one1 args) fun v => oB (natO v) g
section
variable {run : Fn}
theorem fnC_le {g : Nat → M V} (h : ∀ c, Le (g c) (run [.str [c]])) (args : List V) : Le (fnC g args) (run args) := fun H p e => by
  obtain ⟨v, h1, e⟩ := oB_some e
  obtain ⟨c, h2, e⟩ := oB_some e
  rw [one1_eq h1, chrO_eq h2]
  exact h c H p e
theorem fnS_le {g : List Nat → M V} (h : ∀ c, Le (g c) (run [.str c])) (args : List V) : Le (fnS g args) (run args) := fun H p e => by
  obtain ⟨v, h1, e⟩ := oB_some e
  obtain ⟨c, h2, e⟩ := oB_some e
  rw [one1_eq h1, strO_eq h2]
  exact h c H p e
theorem fnN_le {g : Nat → M V} (h : ∀ c : Nat, Le (g c) (run [.int c])) (args : List V) : Le (fnN g args) (run args) := fun H p e => by
  obtain ⟨v, h1, e⟩ := oB_some e
  obtain ⟨c, h2, e⟩ := oB_some e
  rw [one1_eq h1, natO_eq h2]
  exact h c H p e
theorem fnSN_le {g : List Nat → Nat → M V} (h : ∀ s (n : Nat), Le (g s n) (run [.str s, .int n])) (args : List V) : Le (fnSN g args) (run args) := fun H p e => by
  obtain ⟨v, h1, e⟩ := oB_some e
  obtain ⟨s, h2, e⟩ := oB_some e
  obtain ⟨n, h3, e⟩ := oB_some e
  rw [two2_eq h1, strO_eq h2, natO_eq h3]
  exact h s n H p e
end
theorem Le.run {T : Tab} {slots npar : Nat} {body : N} {args : List V} {m : M V} (h : m = runK T slots npar body args) : Le m (runF T slots npar body args) := h ▸ runK_le
noncomputable abbrev rB (b : Bool) : M V := ret (.bool b)
theorem or_ret {a b : Bool} : bM a (rB a) (rB b) = rB (a || b) := by cases a <;> rfl
theorem and_ret {a b : Bool} : bM a (rB b) (rB a) = rB (a && b) := by cases a <;> rfl

noncomputable abbrev brK (T : Tab) (b : N) (σ : List V) : M V := execKs T b σ (fun z' => failM) (fun z' => failM) (fun v z' => ret v)
def isLE (c : Nat) : Bool := [c] == [10] || [c] == [13]
def isWE (c : Nat) : Bool := isLE c || ([c] == [8232] || [c] == [8233])
def far (c : Nat) : Bool := (decide ((55296 : Int) ≤ c) && decide ((c : Int) ≤ 57343)) || decide ((c : Int) > 65535)
def isDig (c : Nat) : Bool := decide (48 ≤ c) && decide (c ≤ 57)
def isNS (c : Nat) : Bool := ((decide (97 ≤ c) && decide (c ≤ 122)) || (decide (65 ≤ c) && decide (c ≤ 90))) || ([c] == [95] || [c] == [36])
def isNP (c : Nat) : Bool := isNS c || isDig c
def pk (s : List Nat) : Nat := s.headD 0

noncomputable def f_is_line_end : Fn := fnC fun c => ret (.bool (isLE c))
noncomputable def T0 : Tab := fun z' z' => failM
theorem ok_is_line_end : ∀ args, Le (f_is_line_end args) (runF T0 1 1 n_is_line_end args) :=
  fnC_le fun c => .run (or_ret.symm.trans (by kernel_rfl))
noncomputable def T1 : Tab := extT T0 255 f_is_line_end
noncomputable def f_is_wide : Fn := fnC fun c => ret (.bool (isWE c))
theorem ok_is_wide : ∀ args, Le (f_is_wide args) (runF T1 1 1 n_is_wide_line_end args) :=
  fnC_le fun c => .run ((or_ret (a := isLE c)).symm.trans ((congrArg (bM (isLE c) (rB (isLE c))) or_ret.symm).trans (by kernel_rfl)))
noncomputable def T2 : Tab := extT T1 262 f_is_wide
noncomputable def f_far : Fn := fnN fun c => ret (.bool (far c))
theorem ok_far : ∀ args, Le (f_far args) (runF T2 1 1 n_scanner_is_far args) :=
  fnN_le fun c => .run ((show ∀ a b d : Bool, rB ((a && b) || d) = bM a (bM b (rB b) (rB d)) (rB d) from fun a b d => by cases a <;> cases b <;> rfl) _ _ _ |>.trans (by kernel_rfl))
noncomputable def T3 : Tab := extT T2 269 f_far

theorem bM_and {α : Type} {a b : Bool} {X Y : M α} : bM (a && b) X Y = bM a (bM b X Y) Y := by cases a <;> rfl
theorem bM_or {α : Type} {a b : Bool} {X Y : M α} : bM (a || b) X Y = bM a X (bM b X Y) := by cases a <;> rfl
theorem rB_bM {b : Bool} : rB b = bM b (rB true) (rB false) := by cases b <;> rfl

noncomputable def f_is_digit : Fn := fnC fun c => rB (isDig c)
theorem ok_is_digit : ∀ args, Le (f_is_digit args) (runF T3 1 1 n_is_digit args) :=
  fnC_le fun c => .run ((show ∀ a b : Bool, rB (a && b) = bM a (rB b) (rB false) from fun a b => by cases a <;> rfl) _ _ |>.trans (by kernel_rfl))
noncomputable def T4 : Tab := extT T3 276 f_is_digit

noncomputable def f_is_ns : Fn := fnC fun c => rB (isNS c)
theorem ok_is_ns : ∀ args, Le (f_is_ns args) (runF T4 1 1 n_is_name_start args) :=
  fnC_le fun c => .run ((show ∀ a b d e f g : Bool, rB (((a && b) || (d && e)) || (f || g)) = bM a (bM b (rB true) (bM d (bM e (rB true) (bM f (rB f) (rB g))) (bM f (rB f) (rB g)))) (bM d (bM e (rB true) (bM f (rB f) (rB g))) (bM f (rB f) (rB g))) from
    fun a b d e f g => by
      rw [← bM_and, ← bM_and, ← bM_or, or_ret]
      cases ((a && b) || (d && e)) <;> rfl) _ _ _ _ _ _ |>.trans (by kernel_rfl))
noncomputable def T5 : Tab := extT T4 283 f_is_ns

noncomputable def f_is_np : Fn := fnC fun c => rB (isNP c)
theorem ok_is_np : ∀ args, Le (f_is_np args) (runF T5 1 1 n_is_name_part args) :=
  fnC_le fun c => .run (or_ret.symm.trans (by kernel_rfl))
noncomputable def T6 : Tab := extT T5 290 f_is_np

noncomputable def isRes (s : List Nat) : Bool := (lookupD s resW (List.replicate 36 (.int (.ofNat 1)))).isSome
noncomputable def f_is_reserved : Fn := fnS fun s => rB (isRes s)
theorem ok_is_reserved : ∀ args, Le (f_is_reserved args) (runF T6 1 1 n_is_reserved args) :=
  fnS_le fun c => .run (by kernel_rfl)
noncomputable def T7 : Tab := extT T6 297 f_is_reserved

def dv (c : Nat) : Int := bif decide (48 ≤ c) && decide (c ≤ 57) then (c : Int) - 48 else bif decide (97 ≤ c) && decide (c ≤ 102) then (c : Int) - 87 else bif decide (65 ≤ c) && decide (c ≤ 70) then (c : Int) - 55 else 99
noncomputable abbrev rI (i : Int) : M V := ret (.int i)
theorem rI_cond {b : Bool} {x y : Int} : rI (bif b then x else y) = bM b (rI x) (rI y) := by cases b <;> rfl
def dvN (c : Nat) : Nat := bif decide (48 ≤ c) && decide (c ≤ 57) then c - 48 else bif decide (97 ≤ c) && decide (c ≤ 102) then c - 87 else bif decide (65 ≤ c) && decide (c ≤ 70) then c - 55 else 99
theorem bif_nat {a b : Bool} {x y : Nat} {u v : Int} (h : a = true → (x : Int) = u) (k : (y : Int) = v) (e : b = a) : ((bif b then x else y : Nat) : Int) = bif a then u else v := by
  subst e
  cases b
  · exact k
  · exact h rfl
theorem dv_nat (c : Nat) : ((dvN c : Nat) : Int) = dv c := by
  have h : ∀ {a b d : Nat}, d ≤ a → (decide (a ≤ c) && decide (c ≤ b)) = true → ((c - d : Nat) : Int) = (c : Int) - d := fun k h => by
    rw [Bool.and_eq_true, decide_eq_true_eq] at h; exact Int.ofNat_sub (Nat.le_trans k h.1)
  exact bif_nat (h (d := 48) (Nat.le_refl _)) (bif_nat (h (d := 87) (by decide)) (bif_nat (h (d := 55) (by decide)) rfl rfl) rfl) rfl
noncomputable def f_digit_value : Fn := fnC fun c => rI (dvN c)
theorem ok_digit_value : ∀ args, Le (f_digit_value args) (runF T7 1 1 n_digit_value args) :=
  fnC_le fun c => .run (by rw [dv_nat]; unfold dv; rw [rI_cond, rI_cond, rI_cond, bM_and, bM_and, bM_and]; kernel_rfl)
noncomputable def T8 : Tab := extT T7 304 f_digit_value

theorem drop_lt {t : List Nat} {n c : Nat} {s : List Nat} (h : t.drop n = c :: s) : n < t.length ∧ t[n]? = some c := by
  have h1 : (t.drop n)[0]? = some c := by rw [h]; rfl
  rw [List.getElem?_drop] at h1
  exact ⟨(List.getElem?_eq_some_iff.mp h1).1, h1⟩
theorem drop_succ {t : List Nat} {n c : Nat} {s : List Nat} (h : t.drop n = c :: s) : t.drop (n + 1) = s := by
  rw [← List.drop_drop, h]; rfl
theorem drop_add {t : List Nat} {n : Nat} {a s : List Nat} (h : t.drop n = a ++ s) : t.drop (n + a.length) = s := by
  rw [← List.drop_drop, h, List.drop_left' rfl]
theorem drop_end {t : List Nat} {n : Nat} (h : t.drop n = []) : t.length ≤ n := List.drop_eq_nil_iff.mp h
theorem lt_dec {t : List Nat} {n c : Nat} {s : List Nat} (h : t.drop n = c :: s) : decide ((n : Int) < (t.length : Int)) = true := decide_eq_true (Int.ofNat_lt.mpr (drop_lt h).1)
theorem lt_end {t : List Nat} {n : Nat} (h : t.drop n = []) : decide ((n : Int) < (t.length : Int)) = false := decide_eq_false fun z => Nat.not_lt.mpr (drop_end h) (Int.ofNat_lt.mp z)
theorem place_nat {n k : Nat} (h : n < k) : place (n : Int) k = some n := by
  unfold place
  rw [if_pos (Int.natCast_nonneg n), if_pos (Int.ofNat_lt.mpr h)]; rfl
theorem orM_of {β : Type} {c d : M β} {H : Hp} {p : β × Hp} (h : c H = some p) : orM c d H = some p := by unfold orM; rw [h]
theorem idx_str {t : List Nat} {n c : Nat} {s : List Nat} (h : t.drop n = c :: s) : idxV (.str t) (.int n) = ret (.str [c]) := by
  obtain ⟨h1, h2⟩ := drop_lt h
  funext H
  refine orM_of ?_
  show oB ((place n t.length).bind fun j => t[j]?) (fun c => ret (V.str [c])) H = _
  rw [place_nat h1]
  show oB t[n]? (fun c => ret (V.str [c])) H = _
  rw [h2]; rfl

noncomputable def f_peek : Fn := fnSN fun t n => ret (.str [pk (t.drop n)])
theorem ok_peek : ∀ args, Le (f_peek args) (runF T8 2 2 n_peek args) :=
  fnSN_le fun t n => .run (by
    refine Eq.trans ?_ (show bM (decide ((n : Int) < (t.length : Int))) (bnd (idxV (.str t) (.int n)) fun v => ret v) (ret (.str [0])) = _ by kernel_rfl)
    cases h : t.drop n with
    | nil => rw [lt_end h]; rfl
    | cons c s => rw [lt_dec h, idx_str h]; rfl)
noncomputable def T9 : Tab := extT T8 248 f_peek

def hexL (i : Nat) : Nat := if i < 10 then 48 + i else 87 + i
def escL (c : Nat) : List Nat := if c = 92 then [92, 92] else if c = 10 then [92, 110] else if c = 9 then [92, 116] else if c = 13 then [92, 114] else if c < 32 then [92, 120, hexL (c / 16), hexL (c % 16)] else [c]
theorem lt32 {P : Nat → Prop} (h : ∀ c, 32 ≤ c → P c) (h0 : P 0) (h1 : P 1) (h2 : P 2) (h3 : P 3) (h4 : P 4) (h5 : P 5) (h6 : P 6) (h7 : P 7) (h8 : P 8) (h9 : P 9) (h10 : P 10) (h11 : P 11) (h12 : P 12) (h13 : P 13) (h14 : P 14) (h15 : P 15)
    (k0 : P 16) (k1 : P 17) (k2 : P 18) (k3 : P 19) (k4 : P 20) (k5 : P 21) (k6 : P 22) (k7 : P 23) (k8 : P 24) (k9 : P 25) (k10 : P 26) (k11 : P 27) (k12 : P 28) (k13 : P 29) (k14 : P 30) (k15 : P 31) : ∀ c, P c
  | 0 => h0 | 1 => h1 | 2 => h2 | 3 => h3 | 4 => h4 | 5 => h5 | 6 => h6 | 7 => h7 | 8 => h8 | 9 => h9 | 10 => h10 | 11 => h11 | 12 => h12 | 13 => h13 | 14 => h14 | 15 => h15
  | 16 => k0 | 17 => k1 | 18 => k2 | 19 => k3 | 20 => k4 | 21 => k5 | 22 => k6 | 23 => k7 | 24 => k8 | 25 => k9 | 26 => k10 | 27 => k11 | 28 => k12 | 29 => k13 | 30 => k14 | 31 => k15
  | c + 32 => h _ (Nat.le_add_left _ _)
theorem esc_plain {c : Nat} (h : 32 ≤ c) (k : c ≠ 92) : escL c = [c] := by
  unfold escL
  rw [if_neg k, if_neg (by omega), if_neg (by omega), if_neg (by omega), if_neg (by omega)]
noncomputable def escD (c : Nat) : Option V := lookupD [c] [[92], [10], [9], [13]] [.str [92, 92], .str [92, 110], .str [92, 116], .str [92, 114]]
theorem escD_none {c : Nat} (h : 32 ≤ c) (k : c ≠ 92) : escD c = none := by
  have ne : ∀ d, d ≠ c → ¬ ([d] = [c]) := fun d h e => h (List.cons.inj e).1
  show (if [92] = [c] then _ else if [10] = [c] then _ else if [9] = [c] then _ else if [13] = [c] then _ else _) = _
  rw [if_neg (ne _ (Ne.symm k)), if_neg (ne _ (by omega)), if_neg (ne _ (by omega)), if_neg (ne _ (by omega))]; rfl
noncomputable def f_escape_letter : Fn := fnC fun c => ret (.str (escL c))
theorem ok_escape_letter : ∀ args, Le (f_escape_letter args) (runF T9 2 1 n_escape_letter args) :=
  fnC_le fun c => .run (lt32 (P := fun c => ret (.str (escL c)) = runK T9 2 1 n_escape_letter [.str [c]]) (fun c h => by
    by_cases k : c = 92
    · subst k; kernel_rfl
    · rw [esc_plain h k]
      have e : decide ((c : Int) < 32) = false := decide_eq_false (by omega)
      refine Eq.trans ?_ (show bM (escD c).isSome (bnd (oB (escD c) ret) fun v => ret v) (bM (decide ((c : Int) < 32)) (brK T9 n_escape_letter_B1 [.str [c], .int c]) (ret (.str [c]))) = _ by kernel_rfl)
      rw [escD_none h k, e]; rfl)
    (by kernel_rfl) (by kernel_rfl) (by kernel_rfl) (by kernel_rfl) (by kernel_rfl) (by kernel_rfl) (by kernel_rfl) (by kernel_rfl) (by kernel_rfl) (by kernel_rfl) (by kernel_rfl) (by kernel_rfl) (by kernel_rfl) (by kernel_rfl) (by kernel_rfl) (by kernel_rfl)
    (by kernel_rfl) (by kernel_rfl) (by kernel_rfl) (by kernel_rfl) (by kernel_rfl) (by kernel_rfl) (by kernel_rfl) (by kernel_rfl) (by kernel_rfl) (by kernel_rfl) (by kernel_rfl) (by kernel_rfl) (by kernel_rfl) (by kernel_rfl) (by kernel_rfl) (by kernel_rfl) c)
noncomputable def T10 : Tab := extT T9 29 f_escape_letter
end

section

noncomputable def f_is_wl : Fn := fnC fun c => rB (s_NAME_LETTERS.contains c || s_DIGIT_LETTERS.contains c)
theorem ok_is_wl : ∀ args, Le (f_is_wl args) (runF T10 1 1 n_is_word_letter args) :=
  fnC_le fun c => .run (or_ret.symm.trans (by kernel_rfl))
noncomputable def T11 : Tab := extT T10 50 f_is_wl

section
variable {α β : Type} {H : Hp}
theorem hB_of {f : Hp → Option α} {d : α → M β} {b : α} (h : f H = some b) : hB f d H = d b H := by unfold hB; rw [h]
theorem bM_t {b : Bool} {X Y : M α} (h : b = true) : bM b X Y = X := by subst h; rfl
theorem bM_f {b : Bool} {X Y : M α} (h : b = false) : bM b X Y = Y := by subst h; rfl
theorem bM_arg {b : Bool} {u v : β} {X : β → M α} : bM b (X u) (X v) = X (bif b then u else v) := by cases b <;> rfl
theorem item_str {t : List Nat} {n c : Nat} {s : List Nat} (h : t.drop n = c :: s) : itemAt (.str t) n H = some (some (.str [c])) := by
  show some ((t[n]?).map _) = _; rw [(drop_lt h).2]; rfl
theorem item_str_end {t : List Nat} {n : Nat} (h : t.drop n = []) : itemAt (.str t) n H = some none := by
  show some ((t[n]?).map _) = _; rw [List.getElem?_eq_none (drop_end h)]; rfl
theorem lst_ref {o : Nat} {acc : List V} (h : H[o]? = some (.list acc)) : lst (.ref o) H = some (o, acc) := by
  show (H[o]?.bind listO).map _ = _; rw [h]; rfl
theorem recv_list {o m : Nat} {acc : List V} (h : H[o]? = some (.list acc)) (hm : m ≤ 2) : recvK (.ref o) m H = some none := by
  show H[o]?.bind _ = _; rw [h]; exact if_pos hm
theorem append_ok {o : Nat} {acc : List V} {v : V} (h : H[o]? = some (.list acc)) (hz : acc.length < SZ) : bmeth (.ref o) 0 [v] H = some (.none, H.set o (.list (acc ++ [v]))) := by
  show hB (lst (.ref o)) (fun l => oB (some v) fun v => gd (l.2.length < SZ) (storeL l.1 (l.2 ++ [v]))) H = _
  rw [hB_of (lst_ref h)]
  exact if_pos hz
theorem append_K {T : Tab} {o : Nat} {acc : List V} {v : V} {d : V → M α} (h : H[o]? = some (.list acc)) (hz : acc.length < SZ) : hB (recvK (.ref o) 0) (fun f => bnd (methV T f (.ref o) 0 [v]) d) H = d .none (H.set o (.list (acc ++ [v]))) :=
  (hB_of (recv_list h (Nat.zero_le _))).trans (bnd_of (append_ok h hz))
theorem set_get {o : Nat} {x y : O} (h : H[o]? = some x) : (H.set o y)[o]? = some y := List.getElem?_set_self (List.getElem?_eq_some_iff.mp h).1
theorem set_same {o : Nat} {x : O} (h : H[o]? = some x) : H.set o x = H := by
  obtain ⟨hlt, e⟩ := List.getElem?_eq_some_iff.mp h
  rw [← e, List.set_getElem_self hlt]
theorem set_new {x y : O} : (H ++ [x]).set H.length y = H ++ [y] := by
  rw [List.set_append_right _ _ (Nat.le_refl _), Nat.sub_self]; rfl
theorem get_new {x : O} : (H ++ [x])[H.length]? = some x := List.getElem?_concat_length
theorem join_ok {o : Nat} {ts : List (List Nat)} (h : H[o]? = some (.list (ts.map .str))) (hz : ts.flatten.length ≤ SZ) : bmeth (.str []) 3 [.ref o] H = some (.str ts.flatten, H) := by
  have hs : strsOf (ts.map V.str) = some ts := by
    clear h hz
    induction ts with
    | nil => rfl
    | cons t ts ih => show (some t).bind (fun s => (strsOf (ts.map V.str)).map (s :: ·)) = _; rw [ih]; rfl
  show hB (lst (.ref o)) (fun l => oB (strsOf l.2) fun ts => gd (([] : List Nat) = [] ∧ ts.flatten.length ≤ SZ) (ret (V.str ts.flatten))) H = _
  rw [hB_of (lst_ref h), hs]
  exact if_pos ⟨rfl, hz⟩
end

def escQ (c : Nat) : List Nat := bif [c] == [34] then [92, 34] else escL c
theorem escL_len (c : Nat) : (escL c).length ≤ 4 := by
  unfold escL
  repeat' split
  all_goals exact of_decide_eq_true rfl
theorem escQ_len (c : Nat) : (escQ c).length ≤ 4 := by
  unfold escQ
  cases ([c] == [34])
  · exact escL_len c
  · exact of_decide_eq_true rfl
theorem flat_len {f : Nat → List Nat} (h : ∀ c, (f c).length ≤ 4) : ∀ s : List Nat, (s.map f).flatten.length ≤ 4 * s.length
  | [] => Nat.le_refl _
  | c :: s => by
    rw [List.map_cons, List.flatten_cons, List.length_append, List.length_cons]
    have := h c; have := flat_len h s; omega

theorem quote_loop {text : List Nat} {o : Nat} : ∀ (s : List Nat) (n k : Nat) (acc : List V) (w : V) (H : Hp), text.drop n = s → s.length < k → H[o]? = some (.list acc) → acc.length + s.length < SZ →
    ∃ v, forN (.inr 2) (.str text) (execSs T11 n_quote_L3b) k n [.str text, .ref o, w] H = some ((.next, [.str text, .ref o, v]), H.set o (.list (acc ++ s.map fun c => .str (escQ c))))
  | [], n, k + 1, acc, w, H, h, _, ho, _ => ⟨w, for_le H _ ((hB_of (item_str_end h)).trans (by
      show some ((Fl.next, _), H) = _
      rw [List.map_nil, List.append_nil]
      refine congrArg (fun x => some ((Fl.next, [V.str text, .ref o, w]), x)) ?_
      exact (set_same ho).symm))⟩
  | c :: s, n, k + 1, acc, w, H, h, hk, ho, hz => by
    obtain ⟨v, ih⟩ := quote_loop s (n + 1) k (acc ++ [.str (escQ c)]) (.str [c]) (H.set o (.list (acc ++ [.str (escQ c)]))) (drop_succ h) (Nat.lt_of_succ_lt_succ hk) (set_get ho) (by rw [List.length_append]; rw [List.length_cons] at hz; exact Nat.lt_of_le_of_lt (by simp only [List.length_cons, List.length_nil]; omega) hz)
    refine ⟨v, for_le H _ ((hB_of (item_str h)).trans (Eq.trans ?_ (ih.trans ?_)))⟩
    · refine (show _ = bM ([c] == [34]) (hB (recvK (.ref o) 0) fun f => bnd (methV T11 f (.ref o) 0 [.str [92, 34]]) fun z' => forN (.inr 2) (.str text) (execSs T11 n_quote_L3b) k (n + 1) [.str text, .ref o, .str [c]])
        (hB (recvK (.ref o) 0) fun f => bnd (methV T11 f (.ref o) 0 [.str (escL c)]) fun z' => forN (.inr 2) (.str text) (execSs T11 n_quote_L3b) k (n + 1) [.str text, .ref o, .str [c]]) H by kernel_rfl).trans ?_
      rw [bM_arg (X := fun l => hB (recvK (.ref o) 0) fun f => bnd (methV T11 f (.ref o) 0 [.str l]) fun z' => forN (.inr 2) (.str text) (execSs T11 n_quote_L3b) k (n + 1) [.str text, .ref o, .str [c]])]
      exact append_K ho (Nat.lt_of_le_of_lt (Nat.le_add_right _ _) hz)
    · rw [List.set_set, List.append_assoc]; rfl

def quoteS (s : List Nat) : List Nat := 34 :: ((s.map escQ).flatten ++ [34])
theorem quoteS_len (s : List Nat) : (quoteS s).length ≤ 4 * s.length + 2 := by
  have := flat_len escQ_len s
  unfold quoteS
  rw [List.length_cons, List.length_append]
  exact Nat.succ_le_succ (Nat.add_le_add_right this 1)
theorem closed_same {H : Hp} : ∀ (j : Nat) (o : O), H[j]? = some o → H[j]? = some o ∨ coB H.length o = true := fun z' z' h => .inl h
noncomputable def f_quote : Fn := trunc 0 (runF T11 3 1 n_quote)
theorem quote_ok {s : List Nat} {H : Hp} (hz : s.length ≤ 20000) : f_quote [.str s] H = some (.str (quoteS s), H) := by
  have z : SZ = 100000 := rfl
  obtain ⟨v, hl⟩ := quote_loop s 0 FUEL [.str [34]] .undef (H ++ [.list [.str [34]]]) rfl (Nat.lt_of_le_of_lt hz (by decide)) get_new (by rw [z, List.length_singleton]; omega)
  rw [set_new] at hl
  refine trunc_eq (G := [.list (([34] :: s.map escQ ++ [[34]]).map .str)]) (runK_le H _ ?_) rfl rfl closed_same
  refine (show _ = bnd (forN (.inr 2) (.str s) (execSs T11 n_quote_L3b) FUEL 0 [.str s, .ref H.length, .undef]) (fun r => selR r (fun σ => execKs T11 n_quote_T4 σ (fun z' => ret .none) (fun z' => failM) (fun v z' => ret v)) (fun z' => failM) (fun v z' => ret v)) (H ++ [.list [.str [34]]]) by kernel_rfl).trans ((bnd_of hl).trans ?_)
  refine (show _ = hB (recvK (.ref H.length) 0) (fun f => bnd (methV T11 f (.ref H.length) 0 [.str [34]]) fun z' => bnd (bmeth (.str []) 3 [.ref H.length]) fun v => ret v) (H ++ [.list ([.str [34]] ++ s.map fun c => .str (escQ c))]) by kernel_rfl).trans ((append_K get_new ?_).trans ?_)
  · rw [List.length_append, List.length_map, List.length_singleton, z]; omega
  · rw [set_new]
    have e : [V.str [34]] ++ (s.map fun c => V.str (escQ c)) ++ [V.str [34]] = ([34] :: s.map escQ ++ [[34]]).map V.str := by
      rw [List.map_append, List.map_cons, List.map_map]; rfl
    have e2 : ([34] :: s.map escQ ++ [[34]]).flatten = quoteS s := by
      rw [List.flatten_append]; rfl
    rw [e]
    refine (bnd_of (join_ok get_new ?_)).trans (by rw [e2]; rfl)
    rw [e2, z]
    have := quoteS_len s; omega
noncomputable def T12 : Tab := extT T11 36 f_quote
end

section

noncomputable abbrev endK (T : Tab) (rest : N) (r : Fl × List V) : M V := selR r (fun σ => execKs T rest σ (fun z' => ret .none) (fun z' => failM) (fun v z' => ret v)) (fun z' => failM) (fun v z' => ret v)
noncomputable def tlN : N → N
  | .cons _ t => t
  | n => n

section
variable {H : Hp}
theorem cut_str {α : Type} (t : List α) (a b : Nat) : cut t (min a t.length) (min b t.length) = (t.drop a).take (b - a) := by
  unfold cut
  rw [List.drop_take]
  by_cases h : a ≤ t.length
  · rw [Nat.min_eq_left h]
    by_cases k : b ≤ t.length
    · rw [Nat.min_eq_left k]
    · rw [Nat.min_eq_right (Nat.le_of_not_le k), List.take_of_length_le (by rw [List.length_drop]; exact Nat.le_refl _), List.take_of_length_le (by rw [List.length_drop]; omega)]
  · rw [Nat.min_eq_right (Nat.le_of_not_le h), List.drop_eq_nil_of_le (Nat.le_of_not_le h), List.drop_eq_nil_of_le (Nat.le_refl _), List.take_nil, List.take_nil]
theorem slc_str (t : List Nat) (a b : Nat) : slcV (.str t) (.int a) (.int b) = ret (.str ((t.drop a).take (b - a))) := by
  funext H
  refine orM_of ?_
  rw [← cut_str]; rfl
theorem item_rng {n m : Nat} (h : n < m) : itemAt (.rng 0 (m : Int)) n H = some (some (.int n)) := by
  show some (if (0 : Int) + n < m then _ else _) = _
  rw [Int.zero_add, if_pos (Int.ofNat_lt.mpr h)]
theorem item_rng_end {n m : Nat} (h : m ≤ n) : itemAt (.rng 0 (m : Int)) n H = some none := by
  show some (if (0 : Int) + n < m then _ else _) = _
  rw [Int.zero_add, if_neg fun z => Nat.not_lt.mpr h (Int.ofNat_lt.mp z)]
theorem gd_of {p : Prop} [Decidable p] {α : Type} {c : M α} (h : p) : gd p c = c := by funext H; unfold gd; rw [if_pos h]
theorem gd_H {p : Prop} [Decidable p] {α : Type} {c : M α} (h : p) : gd p c H = c H := if_pos h
theorem oB_s {α β : Type} {a : α} {d : α → M β} : oB (some a) d = d a := rfl
theorem small_nat {n : Nat} (h : n ≤ SZ) : smallI n = true := Nat.ble_eq_true_of_le (Nat.le_trans h (by decide))
theorem rng_of {n : Nat} (h : n ≤ SZ) : biV .rng [.int n] H = some (.rng 0 n, H) :=
  orM_of (c := gd (smallI (n : Int) = true) (ret (V.rng 0 n))) (gd_H (small_nat h))
end

def escT (c : Nat) (s : List Nat) : List Nat := bif [c] == [96] then [92, 120, 54, 48] else bif [c] == [36] && s.take 1 == [123] then [92, 120, 50, 52] else escL c
def tplP : List Nat → List (List Nat)
  | [] => []
  | c :: s => escT c s :: tplP s
def tplS (s : List Nat) : List Nat := (tplP s).flatten
theorem escT_len (c : Nat) (s : List Nat) : (escT c s).length ≤ 4 := by
  unfold escT
  cases ([c] == [96])
  · cases ([c] == [36] && s.take 1 == [123])
    · exact escL_len c
    · exact Nat.le_refl _
  · exact Nat.le_refl _
theorem tplS_len : ∀ s, (tplS s).length ≤ 4 * s.length
  | [] => Nat.le_refl _
  | c :: s => by
    show (escT c s ++ tplS s).length ≤ _
    rw [List.length_append, List.length_cons]
    have := escT_len c s; have := tplS_len s; omega
theorem tplP_len : ∀ s, (tplP s).length = s.length
  | [] => rfl
  | _ :: s => congrArg (· + 1) (tplP_len s)

theorem tpl_loop {text : List Nat} {o : Nat} : ∀ (s : List Nat) (n k : Nat) (acc : List V) (w1 w2 : V) (H : Hp), text.drop n = s → s.length < k → H[o]? = some (.list acc) → acc.length + s.length < SZ →
    ∃ v1 v2, forN (.inr 2) (.rng 0 text.length) (execSs T12 n_template_text_L5b) k n [.str text, .ref o, w1, w2] H = some ((.next, [.str text, .ref o, v1, v2]), H.set o (.list (acc ++ (tplP s).map .str)))
  | [], n, k + 1, acc, w1, w2, H, h, _, ho, _ => ⟨w1, w2, for_le H _ ((hB_of (item_rng_end (drop_end h))).trans (by
      show some ((Fl.next, _), H) = _
      rw [show acc ++ (tplP []).map V.str = acc from List.append_nil acc, set_same ho]))⟩
  | c :: s, n, k + 1, acc, w1, w2, H, h, hk, ho, hz => by
    have hz' : acc.length + (s.length + 1) < SZ := hz
    obtain ⟨v1, v2, ih⟩ := tpl_loop s (n + 1) k (acc ++ [.str (escT c s)]) (.int n) (.str [c]) (H.set o (.list (acc ++ [.str (escT c s)]))) (drop_succ h) (Nat.lt_of_succ_lt_succ hk) (set_get ho) (by rw [List.length_append, List.length_singleton]; omega)
    have hd := drop_succ h
    refine ⟨v1, v2, for_le H _ ((hB_of (item_rng (drop_lt h).1)).trans (Eq.trans ?_ (ih.trans ?_)))⟩
    · let K : List V → Ms := forN (.inr 2) (.rng 0 text.length) (execSs T12 n_template_text_L5b) k (n + 1)
      let A : List Nat → Ms := fun l => hB (recvK (.ref o) 0) fun f => bnd (methV T12 f (.ref o) 0 [.str l]) fun z' => K [.str text, .ref o, .int n, .str [c]]
      refine (show _ = bnd (idxV (.str text) (.int n)) (fun v => execKs T12 (tlN n_template_text_L5b) [.str text, .ref o, .int n, v] K (fun σ => ret (.next, σ)) fun v σ => ret (.rtn v, σ)) H by kernel_rfl).trans ?_
      rw [idx_str h]
      refine (show _ = bM ([c] == [96]) (A [92, 120, 54, 48]) (bM ([c] == [36]) (bnd (slcV (.str text) (.int ((n + 1 : Nat) : Int)) (.int ((n + 2 : Nat) : Int))) fun v => hB (cmpB .Eq v (.str [123])) fun r => bM r (A [92, 120, 50, 52]) (A (escL c))) (A (escL c))) H by kernel_rfl).trans ?_
      rw [slc_str, hd, show n + 2 - (n + 1) = 1 by omega]
      refine (show _ = bM ([c] == [96]) (A [92, 120, 54, 48]) (bM ([c] == [36]) (bM (s.take 1 == [123]) (A [92, 120, 50, 52]) (A (escL c))) (A (escL c))) H by kernel_rfl).trans ?_
      rw [← bM_and, bM_arg, bM_arg]
      exact append_K ho (by omega)
    · rw [List.set_set, List.append_assoc]; rfl

noncomputable def f_template_text : Fn := trunc 0 (runF T12 4 1 n_template_text)
theorem template_ok {s : List Nat} {H : Hp} (hz : s.length ≤ 20000) : f_template_text [.str s] H = some (.str (tplS s), H) := by
  have z : SZ = 100000 := rfl
  obtain ⟨v1, v2, hl⟩ := tpl_loop s 0 FUEL [] .undef .undef (H ++ [.list []]) rfl (Nat.lt_of_le_of_lt hz (by decide)) get_new (by rw [z, List.length_nil]; omega)
  rw [set_new] at hl
  refine trunc_eq (G := [.list ((tplP s).map .str)]) (runK_le H _ ?_) rfl rfl closed_same
  refine (show _ = bnd (biV .rng [.int s.length]) (fun o => bnd (forN (.inr 2) o (execSs T12 n_template_text_L5b) FUEL 0 [.str s, .ref H.length, .undef, .undef]) (endK T12 n_template_text_T6)) (H ++ [.list []]) by kernel_rfl).trans ?_
  refine (bnd_of (rng_of (by rw [z]; omega))).trans ((bnd_of hl).trans ?_)
  refine (show _ = bnd (bmeth (.str []) 3 [.ref H.length]) (fun v => ret v) (H ++ [.list ((tplP s).map .str)]) by kernel_rfl).trans ((bnd_of (join_ok get_new ?_)).trans rfl)
  have := tplS_len s
  show (tplS s).length ≤ _
  omega
noncomputable def T13 : Tab := extT T12 43 f_template_text

noncomputable def wl (c : Nat) : Bool := s_NAME_LETTERS.contains c || s_DIGIT_LETTERS.contains c
theorem bare_loop {text : List Nat} {T : Tab} {b : N} {P : Nat → Bool} (hb : ∀ (c : Nat) (K : List V → Ms) (H : Hp), execKs T b [.str text, .str [c]] K (fun σ => ret (.next, σ)) (fun v σ => ret (.rtn v, σ)) H = bM (P c) (K [.str text, .str [c]]) (ret (.rtn (.bool false), [.str text, .str [c]])) H) :
    ∀ (s : List Nat) (n k : Nat) (w : V) (H : Hp), text.drop n = s → s.length < k → ∃ v, forN (.inr 1) (.str text) (execSs T b) k n [.str text, w] H = some ((bif s.all P then .next else .rtn (.bool false), [.str text, v]), H)
  | [], n, k + 1, w, H, h, _ => ⟨w, for_le H _ ((hB_of (item_str_end h)).trans rfl)⟩
  | c :: s, n, k + 1, w, H, h, hk => by
    obtain ⟨v, ih⟩ := bare_loop hb s (n + 1) k (.str [c]) H (drop_succ h) (Nat.lt_of_succ_lt_succ hk)
    rw [List.all_cons]
    cases hp : P c with
    | true => exact ⟨v, for_le H _ ((hB_of (item_str h)).trans ((hb c _ H).trans (by rw [hp]; exact ih)))⟩
    | false => exact ⟨.str [c], for_le H _ ((hB_of (item_str h)).trans ((hb c _ H).trans (by rw [hp]; rfl)))⟩

noncomputable def standsB : List Nat → Bool
  | [] => false
  | c :: s => !s_DIGIT_LETTERS.contains c && (c :: s).all wl
noncomputable def gS (g : List Nat → V) : Fn := fnS fun s => gd (s.length ≤ 20000) (ret (g s))
theorem gS_le {g : List Nat → V} {run : Fn} (h : ∀ s H, s.length ≤ 20000 → run [.str s] H = some (g s, H)) : ∀ args, Le (gS g args) (run args) :=
  fnS_le fun s H p e => by
    obtain ⟨hz, e⟩ := gd_some e
    cases e; exact h s H hz
noncomputable def f_stands_bare : Fn := gS fun s => .bool (standsB s)
theorem ok_stands_bare : ∀ args, Le (f_stands_bare args) (runF T13 2 1 n_stands_bare args) :=
  gS_le fun s H hz => by
    obtain ⟨v, hl⟩ := bare_loop (text := s) (T := T13) (b := n_stands_bare_L1b) (P := wl) (fun c K H => by
      refine (show _ = bM (wl c) (K [.str s, .str [c]]) (ret (.rtn (.bool false), [.str s, .str [c]])) H by kernel_rfl)) s 0 FUEL .undef H rfl (Nat.lt_of_le_of_lt hz (by decide))
    refine runK_le H _ ?_
    cases s with
    | nil => kernel_rfl
    | cons c s =>
      refine (show _ = bnd (idxV (.str (c :: s)) (.int ((0 : Nat) : Int))) (fun v => hB (cmpB .In v (.str s_DIGIT_LETTERS)) fun r => bM r (rB false) (bnd (forN (.inr 1) (.str (c :: s)) (execSs T13 n_stands_bare_L1b) FUEL 0 [.str (c :: s), .undef]) (endK T13 n_stands_bare_T2))) H by kernel_rfl).trans ?_
      rw [idx_str (n := 0) rfl]
      refine (show _ = bM (s_DIGIT_LETTERS.contains c) (rB false) (bnd (forN (.inr 1) (.str (c :: s)) (execSs T13 n_stands_bare_L1b) FUEL 0 [.str (c :: s), .undef]) (endK T13 n_stands_bare_T2)) H by kernel_rfl).trans ?_
      show _ = some (V.bool (!s_DIGIT_LETTERS.contains c && (c :: s).all wl), H)
      cases s_DIGIT_LETTERS.contains c with
      | true => rfl
      | false =>
        refine (bnd_of hl).trans ?_
        cases (c :: s).all wl <;> kernel_rfl
noncomputable def T14 : Tab := extT T13 57 f_stands_bare

noncomputable def digitsB : List Nat → Bool
  | [] => false
  | c :: s => !(decide (((c :: s).length : Int) > 15) || ([c] == [48] && !((c :: s) == [48]))) && (c :: s).all s_DIGIT_LETTERS.contains
noncomputable def f_digits_bare : Fn := gS fun s => .bool (digitsB s)
theorem ok_digits_bare : ∀ args, Le (f_digits_bare args) (runF T14 2 1 n_digits_bare args) :=
  gS_le fun s H hz => by
    obtain ⟨v, hl⟩ := bare_loop (text := s) (T := T14) (b := n_digits_bare_L1b) (P := s_DIGIT_LETTERS.contains) (fun c K H => by
      refine (show _ = bM (!s_DIGIT_LETTERS.contains c) (ret (.rtn (.bool false), [.str s, .str [c]])) (K [.str s, .str [c]]) H by kernel_rfl).trans ?_
      cases s_DIGIT_LETTERS.contains c <;> rfl) s 0 FUEL .undef H rfl (Nat.lt_of_le_of_lt hz (by decide))
    refine runK_le H _ ?_
    cases s with
    | nil => kernel_rfl
    | cons c s =>
      let L : M V := bnd (forN (.inr 1) (.str (c :: s)) (execSs T14 n_digits_bare_L1b) FUEL 0 [.str (c :: s), .undef]) (endK T14 n_digits_bare_T2)
      refine (show _ = bM (decide (((c :: s).length : Int) > 15)) (rB false) (bnd (idxV (.str (c :: s)) (.int ((0 : Nat) : Int))) (fun v => hB (cmpB .Eq v (.str [48])) fun r => bM r (bM (!((c :: s) == [48])) (rB false) L) L)) H by kernel_rfl).trans ?_
      rw [idx_str (n := 0) rfl]
      refine (show _ = bM (decide (((c :: s).length : Int) > 15)) (rB false) (bM ([c] == [48]) (bM (!((c :: s) == [48])) (rB false) L) L) H by kernel_rfl).trans ?_
      rw [← bM_and, ← bM_or]
      show _ = some (V.bool (!(decide (((c :: s).length : Int) > 15) || ([c] == [48] && !((c :: s) == [48]))) && (c :: s).all s_DIGIT_LETTERS.contains), H)
      cases (decide (((c :: s).length : Int) > 15) || ([c] == [48] && !((c :: s) == [48]))) with
      | true => rfl
      | false =>
        refine (bnd_of hl).trans ?_
        cases (c :: s).all s_DIGIT_LETTERS.contains <;> kernel_rfl
noncomputable def T15 : Tab := extT T14 64 f_digits_bare

noncomputable def keyS (s : List Nat) : List Nat := bif standsB s || digitsB s then s else quoteS s
noncomputable def f_prop_key : Fn := gS fun s => .str (keyS s)
theorem ok_prop_key : ∀ args, Le (f_prop_key args) (runF T15 1 1 n_prop_key args) :=
  gS_le fun s H hz => runK_le H _ (by
    refine (show _ = bnd (gd (s.length ≤ 20000) (rB (standsB s))) (fun v => bnd (truthyM v) fun t => bM t (ret (.str s)) (bnd (gd (s.length ≤ 20000) (rB (digitsB s))) fun v => bnd (truthyM v) fun t => bM t (ret (.str s)) (bnd (f_quote [.str s]) fun v => ret v))) H by kernel_rfl).trans ?_
    rw [gd_of hz, gd_of hz]
    refine (show _ = bM (standsB s) (ret (.str s)) (bM (digitsB s) (ret (.str s)) (bnd (f_quote [.str s]) fun v => ret v)) H by kernel_rfl).trans ?_
    rw [← bM_or]
    unfold keyS
    cases (standsB s || digitsB s) with
    | true => rfl
    | false => exact (bnd_of (quote_ok hz)).trans rfl)
noncomputable def T16 : Tab := extT T15 71 f_prop_key
end

section

noncomputable def three3 : List V → Option (V × V × V)
  | [x, y, z] => some (x, y, z)
  | _ => none
theorem three3_eq : ∀ {vs : List V} {v : V × V × V}, three3 vs = some v → vs = [v.1, v.2.1, v.2.2]
  | [_, _, _], _, e => by cases e; rfl
noncomputable def fnSNN (g : List Nat → Nat → Nat → M V) : Fn := fun args => oB (three3 args) fun p => oB (strO p.1) fun s => oB (natO p.2.1) fun n => oB (natO p.2.2) fun m => g s n m
theorem fnSNN_le {run : Fn} {g : List Nat → Nat → Nat → M V} (h : ∀ s (n m : Nat), Le (g s n m) (run [.str s, .int n, .int m])) (args : List V) : Le (fnSNN g args) (run args) := fun H p e => by
  obtain ⟨v, h1, e⟩ := oB_some e
  obtain ⟨s, h2, e⟩ := oB_some e
  obtain ⟨n, h3, e⟩ := oB_some e
  obtain ⟨m, h4, e⟩ := oB_some e
  rw [three3_eq h1, strO_eq h2, natO_eq h3, natO_eq h4]
  exact h s n m H p e

noncomputable def failE : M V := ret (.tup [.str [], .int (-1)])
noncomputable def okE (c : List Nat) (n : Nat) : M V := ret (.tup [.str c, .int n])

def hexV : List Nat → Nat → Nat → Option Nat
  | _, 0, a => some a
  | s, k + 1, a => bif decide ((dvN (pk s) : Int) > 15) then none else hexV (s.drop 1) k (a * 16 + dvN (pk s))
noncomputable def hexM (s : List Nat) (cnt n : Nat) : M V := match hexV s cnt 0 with
  | none => failE
  | some v => bM (far v) failE (okE [v] (n + cnt))
theorem item_rng2 {H : Hp} {n i c : Nat} (h : i < c) : itemAt (.rng n ((n + c : Nat) : Int)) i H = some (some (.int ((n + i : Nat) : Int))) := by
  show some (if (n : Int) + i < ((n + c : Nat) : Int) then _ else _) = _
  exact congrArg some (if_pos (Int.ofNat_lt.mpr (Nat.add_lt_add_left h n)))
theorem item_rng2_end {H : Hp} {n i c : Nat} (h : i = c) : itemAt (.rng n ((n + c : Nat) : Int)) i H = some none := by
  subst h
  exact congrArg some (if_neg fun z => Nat.lt_irrefl _ (Int.ofNat_lt.mp z))
theorem small_le {n : Nat} (h : n ≤ 4000000000000000000) : smallI (n : Int) = true := Nat.ble_eq_true_of_le h

theorem hex_loop {t : List Nat} {n cnt : Nat} {H : Hp} : ∀ (j i k a : Nat) (w1 w2 : V), i + j = cnt → j < k → (a + 1) * 16 ^ j ≤ 65536 →
    ∃ σ, forN (.inr 4) (.rng n ((n + cnt : Nat) : Int)) (execSs T16 n_read_hex_escape_L4b) k i [.str t, .int n, .int cnt, .int a, w1, w2] H =
      some (match hexV (t.drop (n + i)) j a with
        | none => ((.rtn (.tup [.str [], .int (-1)]), σ), H)
        | some v => ((.next, [.str t, .int n, .int cnt, .int v] ++ σ), H))
  | 0, i, k + 1, a, w1, w2, hi, _, _ => ⟨[w1, w2], for_le H _ ((hB_of (item_rng2_end hi)).trans rfl)⟩
  | j + 1, i, k + 1, a, w1, w2, hi, hk, hz => by
    have hlt : i < cnt := by omega
    have hp : 0 < 16 ^ j := Nat.pow_pos (by decide)
    have ha : a + 1 ≤ 65536 := Nat.le_trans (Nat.le_mul_of_pos_right _ (Nat.pow_pos (by decide))) hz
    have tree : forK T16 (.inr 4) (.rng n ((n + cnt : Nat) : Int)) n_read_hex_escape_L4b k i [.str t, .int n, .int cnt, .int a, w1, w2] H =
        bM (decide ((dvN (pk (t.drop (n + i))) : Int) > 15)) (ret (Fl.rtn (.tup [.str [], .int (-1)]), [.str t, .int n, .int cnt, .int a, .int ((n + i : Nat) : Int), .int (dvN (pk (t.drop (n + i))))]))
          (gd ((smallI (a : Int) && smallI 16) = true) (forN (.inr 4) (.rng n ((n + cnt : Nat) : Int)) (execSs T16 n_read_hex_escape_L4b) k (i + 1) [.str t, .int n, .int cnt, .int ((a * 16 + dvN (pk (t.drop (n + i))) : Nat) : Int), .int ((n + i : Nat) : Int), .int (dvN (pk (t.drop (n + i))))])) H := by
      refine (hB_of (item_rng2 hlt)).trans ?_
      refine (show _ = bM (decide ((dvN (pk (t.drop (n + i))) : Int) > 15)) (ret (Fl.rtn (.tup [.str [], .int (-1)]), [.str t, .int n, .int cnt, .int a, .int ((n + i : Nat) : Int), .int (dvN (pk (t.drop (n + i))))]))
          (bnd (gd ((smallI (a : Int) && smallI 16) = true) (ret (.int ((a * 16 : Nat) : Int)))) fun v => bnd (binV .Add v (.int (dvN (pk (t.drop (n + i)))))) fun v => forN (.inr 4) (.rng n ((n + cnt : Nat) : Int)) (execSs T16 n_read_hex_escape_L4b) k (i + 1) [.str t, .int n, .int cnt, v, .int ((n + i : Nat) : Int), .int (dvN (pk (t.drop (n + i))))]) H by kernel_rfl).trans ?_
      rw [bnd_gd]
      rfl
    unfold hexV
    cases hd : decide ((dvN (pk (t.drop (n + i))) : Int) > 15) with
    | true => exact ⟨_, for_le H _ (tree.trans (by rw [hd]; rfl))⟩
    | false =>
      have hd' : dvN (pk (t.drop (n + i))) ≤ 15 := by have := of_decide_eq_false hd; omega
      obtain ⟨σ, ih⟩ := hex_loop (t := t) (n := n) (cnt := cnt) (H := H) j (i + 1) k (a * 16 + dvN (pk (t.drop (n + i)))) (.int ((n + i : Nat) : Int)) (.int (dvN (pk (t.drop (n + i))))) (by omega) (Nat.lt_of_succ_lt_succ hk) (Nat.le_trans (Nat.mul_le_mul_right _ (show a * 16 + dvN (pk (t.drop (n + i))) + 1 ≤ (a + 1) * 16 by omega)) (by rw [Nat.mul_assoc, ← Nat.pow_succ']; exact hz))
      refine ⟨σ, for_le H _ (tree.trans ?_)⟩
      rw [hd, gd_of (show (smallI (a : Int) && smallI 16) = true by rw [small_le (by omega)]; rfl), List.drop_drop]
      exact ih

theorem rng2_of {n m : Nat} {H : Hp} (h : n ≤ SZ) (k : m ≤ 4) : biV .rng [.int n, .int ((n + m : Nat) : Int)] H = some (.rng n ((n + m : Nat) : Int), H) :=
  have z : SZ = 100000 := rfl
  (gd_H (c := ret (V.rng n ((n + m : Nat) : Int))) (show (smallI (n : Int) && smallI ((n + m : Nat) : Int)) = true by rw [small_nat h, small_le (by omega)]; rfl) :)
noncomputable def f_hex : Fn := fnSNN fun t n m => gd (n ≤ SZ ∧ m ≤ 4) (hexM (t.drop n) m n)
theorem chr_le {v : Nat} (h : far v = false) : chrI (v : Int) = true := by
  unfold far at h
  rw [Bool.or_eq_false_iff] at h
  have := of_decide_eq_false h.2
  exact Nat.ble_eq_true_of_le (by omega)
theorem ok_hex : ∀ args, Le (f_hex args) (runF T16 6 3 n_read_hex_escape args) :=
  fnSNN_le fun t n m H p e => by
    obtain ⟨hz, e⟩ := gd_some e
    refine runK_le H _ (Eq.trans ?_ e)
    obtain ⟨σ, hl⟩ := hex_loop (t := t) (n := n) (cnt := m) (H := H) m 0 FUEL 0 .undef .undef (Nat.zero_add m) (Nat.lt_of_le_of_lt hz.2 (by decide)) (by rw [Nat.one_mul]; exact Nat.pow_le_pow_right (by decide) hz.2)
    rw [Nat.add_zero] at hl
    refine (show _ = bnd (biV .rng [.int n, .int ((n + m : Nat) : Int)]) (fun o => bnd (forN (.inr 4) o (execSs T16 n_read_hex_escape_L4b) FUEL 0 [.str t, .int n, .int m, .int ((0 : Nat) : Int), .undef, .undef]) (endK T16 n_read_hex_escape_T6)) H by kernel_rfl).trans ((bnd_of (rng2_of hz.1 hz.2)).trans ((bnd_of hl).trans ?_))
    unfold hexM
    cases hexV (t.drop n) m 0 with
    | none => rfl
    | some v =>
      refine (show _ = bM (far v) failE (bnd (gd (chrI (v : Int) = true) (ret (.str [v]))) fun v => bnd (binV .Add (.int n) (.int m)) fun w => ret (.tup [v, w])) H by kernel_rfl).trans ?_
      show _ = bM (far v) failE (okE [v] (n + m)) H
      cases hf : far v with
      | true => rfl
      | false => rw [gd_of (chr_le hf)]; rfl
noncomputable def T17 : Tab := extT T16 360 f_hex

def cpL : List Nat → Nat → Nat → Option (Nat × Nat × List Nat)
  | [], a, c => some (a, c, [])
  | x :: s, a, c => bif decide ((dvN x : Int) ≤ 15) then bif far (a * 16 + dvN x) then none else cpL s (a * 16 + dvN x) (c + 1) else some (a, c, x :: s)
noncomputable def cpM (s : List Nat) (n : Nat) : M V := match cpL s 0 0 with
  | none => failE
  | some r => bM ((r.2.1 : Int) == 0) failE (bM (!([pk r.2.2] == [125])) failE (okE [r.1] (n + r.2.1 + 1)))
theorem far_le {v : Nat} (h : far v = false) : v ≤ 65535 := by
  unfold far at h
  rw [Bool.or_eq_false_iff] at h
  have := of_decide_eq_false h.2
  omega
theorem cp_tree {t : List Nat} {m a c : Nat} {H : Hp} (X : Ms) : testK T17 n_read_code_point_L3c [.str t, .int ((m + c : Nat) : Int), .int a, .int c] X (ret (.next, [.str t, .int ((m + c : Nat) : Int), .int a, .int c])) H =
    bM (decide ((dvN (pk (t.drop (m + c))) : Int) ≤ 15)) X (ret (Fl.next, [.str t, .int ((m + c : Nat) : Int), .int a, .int c])) H := by kernel_rfl
theorem cp_loop {t : List Nat} {m : Nat} {H : Hp} : ∀ (s : List Nat) (k a c : Nat), t.drop (m + c) = s → s.length < k → a ≤ 65535 →
    ∃ σ, whileN (evalB T17 n_read_code_point_L3c) (execSs T17 n_read_code_point_L3b) k [.str t, .int ((m + c : Nat) : Int), .int a, .int c] H =
      some (match cpL s a c with
        | none => ((.rtn (.tup [.str [], .int (-1)]), σ), H)
        | some r => ((.next, [.str t, .int ((m + r.2.1 : Nat) : Int), .int r.1, .int r.2.1]), H))
  | [], k + 1, a, c, h, _, _ => ⟨[], while_le H _ ((cp_tree _).trans (by rw [h]; rfl))⟩
  | x :: s, k + 1, a, c, h, hk, ha => by
    have hd := drop_succ h
    have tree : ∀ K : List V → Ms, testK T17 n_read_code_point_L3c [.str t, .int ((m + c : Nat) : Int), .int a, .int c] (execKs T17 n_read_code_point_L3b [.str t, .int ((m + c : Nat) : Int), .int a, .int c] K (fun σ => ret (.next, σ)) fun v σ => ret (.rtn v, σ)) (ret (.next, [.str t, .int ((m + c : Nat) : Int), .int a, .int c])) H =
        bM (decide ((dvN x : Int) ≤ 15)) (bM (far (a * 16 + dvN x)) (ret (.rtn (.tup [.str [], .int (-1)]), [.str t, .int ((m + c : Nat) : Int), .int ((a * 16 + dvN x : Nat) : Int), .int c])) (K [.str t, .int ((m + (c + 1) : Nat) : Int), .int ((a * 16 + dvN x : Nat) : Int), .int ((c + 1 : Nat) : Int)]))
          (ret (.next, [.str t, .int ((m + c : Nat) : Int), .int a, .int c])) H := fun K => by
      refine (cp_tree _).trans ?_
      rw [h]
      refine congrFun (congrArg (fun X => bM (decide ((dvN x : Int) ≤ 15)) X _) ?_) H
      refine (show _ = evalK T17 n_read_code_point_E1 [.str t, .int ((m + c : Nat) : Int), .int a, .int c] (fun v => execKs T17 (tlN n_read_code_point_L3b) [.str t, .int ((m + c : Nat) : Int), v, .int c] K (fun σ => ret (.next, σ)) fun v σ => ret (.rtn v, σ)) by kernel_rfl).trans ?_
      rw [show ∀ k : V → Ms, evalK T17 n_read_code_point_E1 [.str t, .int ((m + c : Nat) : Int), .int a, .int c] k = k (.int ((a * 16 + dvN x : Nat) : Int)) from fun k => by
        refine (show _ = bnd (gd ((smallI (a : Int) && smallI 16) = true) (ret (.int ((a * 16 : Nat) : Int)))) (fun u => bnd (idxV (.str t) (.int ((m + c : Nat) : Int))) fun w => bnd (f_digit_value [w]) fun w => bnd (binV .Add u w) k) by kernel_rfl).trans ?_
        rw [gd_of (show (smallI (a : Int) && smallI 16) = true by rw [small_le (by omega)]; rfl), idx_str h]
        kernel_rfl]
      kernel_rfl
    unfold cpL
    cases hx : decide ((dvN x : Int) ≤ 15) with
    | false => exact ⟨[], while_le H _ ((tree _).trans (by rw [hx]; rfl))⟩
    | true =>
      cases hf : far (a * 16 + dvN x) with
      | true => exact ⟨_, while_le H _ ((tree _).trans (by rw [hx, hf]; rfl))⟩
      | false =>
        obtain ⟨σ, ih⟩ := cp_loop s k (a * 16 + dvN x) (c + 1) hd (Nat.lt_of_succ_lt_succ hk) (far_le hf)
        exact ⟨σ, while_le H _ ((tree _).trans (by rw [hx, hf]; exact ih))⟩
noncomputable def f_cp : Fn := fnSN fun t n => gd (t.length ≤ SZ) (cpM (t.drop n) n)
theorem cpL_le : ∀ {s : List Nat} {a c : Nat} {r : Nat × Nat × List Nat} {t : List Nat} {m : Nat}, t.drop (m + c) = s → a ≤ 65535 → cpL s a c = some r → r.1 ≤ 65535 ∧ t.drop (m + r.2.1) = r.2.2
  | [], a, c, r, t, m, h, ha, e => by cases e; exact ⟨ha, h⟩
  | x :: s, a, c, r, t, m, h, ha, e => by
    unfold cpL at e
    cases hx : decide ((dvN x : Int) ≤ 15) with
    | false => rw [hx] at e; cases e; exact ⟨ha, h⟩
    | true =>
      cases hf : far (a * 16 + dvN x) with
      | true => rw [hx, hf] at e; cases e
      | false =>
        rw [hx, hf] at e
        exact cpL_le (c := c + 1) (drop_succ h) (far_le hf) e
theorem ok_cp : ∀ args, Le (f_cp args) (runF T17 4 2 n_read_code_point args) :=
  fnSN_le fun t n H p e => by
    obtain ⟨hz, e⟩ := gd_some e
    refine runK_le H _ (Eq.trans ?_ e)
    have hl0 : (t.drop n).length < FUEL := Nat.lt_of_le_of_lt (by rw [List.length_drop]; exact Nat.le_trans (Nat.sub_le _ _) hz) (by decide)
    obtain ⟨σ, hl⟩ := cp_loop (t := t) (m := n) (H := H) (t.drop n) FUEL 0 0 rfl hl0 (Nat.zero_le _)
    refine (show _ = bnd (whileN (evalB T17 n_read_code_point_L3c) (execSs T17 n_read_code_point_L3b) FUEL [.str t, .int ((n + 0 : Nat) : Int), .int ((0 : Nat) : Int), .int ((0 : Nat) : Int)]) (endK T17 n_read_code_point_T5) H by kernel_rfl).trans ((bnd_of hl).trans ?_)
    unfold cpM
    cases hc : cpL (t.drop n) 0 0 with
    | none => rfl
    | some r =>
      obtain ⟨h1, h2⟩ := cpL_le (c := 0) rfl (Nat.zero_le _) hc
      refine (show _ = bM ((r.2.1 : Int) == 0) failE (bM (!([pk (t.drop (n + r.2.1))] == [125])) failE (bnd (gd (chrI (r.1 : Int) = true) (ret (.str [r.1]))) fun v => ret (.tup [v, .int ((n + r.2.1 + 1 : Nat) : Int)]))) H by kernel_rfl).trans ?_
      rw [h2, gd_of (show chrI (r.1 : Int) = true from Nat.ble_eq_true_of_le (by omega))]
      rfl
noncomputable def T18 : Tab := extT T17 367 f_cp

noncomputable def escLk (l : Nat) : Option V := lookupD [l] [[110], [116], [114], [98], [118], [102]] [.str [10], .str [9], .str [13], .str [8], .str [11], .str [12]]
noncomputable def escM (s : List Nat) (n : Nat) : M V :=
  bM (s.drop 1).isEmpty failE (bM ([pk (s.drop 1)] == [120]) (hexM (s.drop 2) 2 (n + 2)) (bM ([pk (s.drop 1)] == [117]) (bM ([pk (s.drop 2)] == [123]) (cpM (s.drop 3) (n + 3)) (hexM (s.drop 2) 4 (n + 2)))
    (bM ([pk (s.drop 1)] == [13] && [pk (s.drop 2)] == [10]) (okE [] (n + 3)) (bM (isWE (pk (s.drop 1))) (okE [] (n + 2)) (bM (isDig (pk (s.drop 1))) (bM ([pk (s.drop 1)] == [48]) (bM (isDig (pk (s.drop 2))) failE (okE [0] (n + 2))) failE)
      (bM (escLk (pk (s.drop 1))).isSome (bnd (oB (escLk (pk (s.drop 1))) ret) fun v => ret (.tup [v, .int ((n + 2 : Nat) : Int)])) (bM (far (pk (s.drop 1))) failE (okE [pk (s.drop 1)] (n + 2)))))))))
theorem ge_dec {t : List Nat} {n : Nat} : decide (((n : Int) + 1) ≥ (t.length : Int)) = (t.drop (n + 1)).isEmpty := by
  cases h : t.drop (n + 1) with
  | nil => exact decide_eq_true (by have := drop_end h; omega)
  | cons c s => exact decide_eq_false (by have := (drop_lt h).1; omega)
noncomputable def f_read_escape : Fn := fnSN fun t n => gd (t.length ≤ SZ ∧ n + 2 ≤ SZ) (escM (t.drop n) n)
theorem ok_read_escape : ∀ args, Le (f_read_escape args) (runF T18 3 2 n_read_escape args) :=
  fnSN_le fun t n H p e => by
    obtain ⟨hz, e⟩ := gd_some e
    refine runK_le H _ (Eq.trans ?_ e)
    unfold escM
    simp only [List.drop_drop]
    let l := pk (t.drop (n + 1))
    let l2 := pk (t.drop (n + 2))
    let R : M V := bM (isWE l) (okE [] (n + 2)) (bM (isDig l) (bM ([l] == [48]) (bM (isDig l2) failE (okE [0] (n + 2))) failE) (bM (escLk l).isSome (bnd (oB (escLk l) ret) fun v => ret (.tup [v, .int ((n + 2 : Nat) : Int)])) (bM (far l) failE (okE [l] (n + 2)))))
    refine (show _ = bM (decide (((n : Int) + 1) ≥ (t.length : Int))) failE (bM ([l] == [120]) (bnd (gd (n + 2 ≤ SZ ∧ 2 ≤ 4) (hexM (t.drop (n + 2)) 2 (n + 2))) ret) (bM ([l] == [117]) (bM ([l2] == [123]) (bnd (gd (t.length ≤ SZ) (cpM (t.drop (n + 3)) (n + 3))) ret) (bnd (gd (n + 2 ≤ SZ ∧ 4 ≤ 4) (hexM (t.drop (n + 2)) 4 (n + 2))) ret))
      (bM ([l] == [13]) (bM ([l2] == [10]) (okE [] (n + 3)) R) R))) H by kernel_rfl).trans ?_
    rw [gd_of ⟨hz.2, by decide⟩, gd_of hz.1, gd_of ⟨hz.2, by decide⟩, bnd_ret, bnd_ret, bnd_ret, ge_dec, ← bM_and]
noncomputable def T19 : Tab := extT T18 374 f_read_escape
end

section

def EscIs (s : List Nat) (r : Option (List Nat × Nat)) : Prop := ∀ n, escM s n = match r with
  | none => failE
  | some p => okE p.1 (n + p.2)
inductive Run (P : Nat → List Nat → Bool) (rest : List Nat) : List Nat → List (List Nat) → Bool → Prop
  | nil : Run P rest [] [] false
  | plain {c : Nat} {body : List Nat} {cks : List (List Nat)} {b : Bool} : P c (body ++ rest) = true → Run P rest body cks b → Run P rest (c :: body) ([c] :: cks) (far c || b)
  | esc {e body ck : List Nat} {cks : List (List Nat)} {b : Bool} : EscIs (92 :: (e ++ (body ++ rest))) (some (ck, e.length + 1)) → Run P rest body cks b → Run P rest (92 :: (e ++ body)) (ck :: cks) b
  | fail {body : List Nat} {cks : List (List Nat)} {b : Bool} : EscIs (92 :: (body ++ rest)) none → Run P rest body cks b → Run P rest (92 :: body) ([] :: cks) true

def okS (q c : Nat) (_ : List Nat) : Bool := !isLE c && (!([c] == [q]) && !([c] == [92]))
def stI (b : Bool) : Int := bif b then 2 else 0

section
variable {t : List Nat} {n q o c : Nat} {s : List Nat} {w5 w6 w7 : V} {z : Int} {H : Hp} {K B : List V → Ms} {R : V → List V → Ms}
theorem str_test {σ : List V} {kt kf : Ms} (h : t.drop n = c :: s) : testK T19 n_scan_string_L6c (.str t :: .int n :: σ) kt kf = bM (isLE c) kf kt := by
  refine (show _ = bM (decide ((n : Int) < (t.length : Int))) (bnd (idxV (.str t) (.int n)) fun v => bnd (f_is_line_end [v]) fun v => bnd (truthyM v) fun r => bM r kf kt) kf by kernel_rfl).trans ?_
  rw [lt_dec h, idx_str h]
  kernel_rfl
theorem str_body (h : t.drop n = c :: s) : execKs T19 n_scan_string_L6b [.str t, .int n, .str [q], .ref o, .int z, w5, w6, w7] K B R =
    bM ([c] == [q]) (bnd (bmeth (.str []) 3 [.ref o]) fun v => R (.tup [v, .int ((n + 1 : Nat) : Int), .int z]) [.str t, .int n, .str [q], .ref o, .int z, .str [c], w6, w7])
      (bM ([c] == [92]) (execKs T19 n_scan_string_B4 [.str t, .int n, .str [q], .ref o, .int z, .str [c], w6, w7] K B R) (execKs T19 n_scan_string_B5 [.str t, .int n, .str [q], .ref o, .int z, .str [c], w6, w7] K B R)) := by
  refine (show _ = bnd (idxV (.str t) (.int n)) (fun v => execKs T19 (tlN n_scan_string_L6b) [.str t, .int n, .str [q], .ref o, .int z, v, w6, w7] K B R) by kernel_rfl).trans ?_
  rw [idx_str h]
  kernel_rfl
theorem str_plain {acc : List V} (ho : H[o]? = some (.list acc)) (hz : acc.length < SZ) {b : Bool} : execKs T19 n_scan_string_B5 [.str t, .int n, .str [q], .ref o, .int (stI b), .str [c], w6, w7] K B R H =
    K [.str t, .int ((n + 1 : Nat) : Int), .str [q], .ref o, .int (stI (b || far c)), .str [c], w6, w7] (H.set o (.list (acc ++ [.str [c]]))) := by
  let A : Int → Ms := fun z => hB (recvK (.ref o) 0) fun f => bnd (methV T19 f (.ref o) 0 [.str [c]]) fun z' => K [.str t, .int ((n + 1 : Nat) : Int), .str [q], .ref o, .int z, .str [c], w6, w7]
  refine (show _ = bM (far c) (A 2) (A (stI b)) H by kernel_rfl).trans ?_
  rw [bM_arg]
  refine (append_K ho hz).trans ?_
  cases b <;> cases far c <;> rfl
theorem str_esc {acc : List V} (ho : H[o]? = some (.list acc)) (hz : acc.length < SZ) (ht : t.length ≤ SZ ∧ n + 2 ≤ SZ) {ck : List Nat} {k : Nat} (h : EscIs (t.drop n) (some (ck, k))) :
    execKs T19 n_scan_string_B4 [.str t, .int n, .str [q], .ref o, .int z, .str [c], w6, w7] K B R H = K [.str t, .int ((n + k : Nat) : Int), .str [q], .ref o, .int z, .str [c], .str ck, .int ((n + k : Nat) : Int)] (H.set o (.list (acc ++ [.str ck]))) := by
  refine (show _ = bnd (gd (t.length ≤ SZ ∧ n + 2 ≤ SZ) (escM (t.drop n) n)) (fun v => oB (bindT (.inl [6, 7]) v [.str t, .int n, .str [q], .ref o, .int z, .str [c], w6, w7]) fun σ => execKs T19 (tlN n_scan_string_B4) σ K B R) H by kernel_rfl).trans ?_
  rw [gd_of ht, h n]
  exact (show _ = hB (recvK (.ref o) 0) (fun f => bnd (methV T19 f (.ref o) 0 [.str ck]) fun z' => K [.str t, .int ((n + k : Nat) : Int), .str [q], .ref o, .int z, .str [c], .str ck, .int ((n + k : Nat) : Int)]) H by kernel_rfl).trans (append_K ho hz)
theorem str_fail {acc : List V} (ho : H[o]? = some (.list acc)) (hz : acc.length < SZ) (ht : t.length ≤ SZ ∧ n + 2 ≤ SZ) (h : EscIs (t.drop n) none) :
    execKs T19 n_scan_string_B4 [.str t, .int n, .str [q], .ref o, .int z, .str [c], w6, w7] K B R H = K [.str t, .int ((n + 1 : Nat) : Int), .str [q], .ref o, .int 2, .str [c], .str [], .int ((n + 1 : Nat) : Int)] (H.set o (.list (acc ++ [.str []]))) := by
  refine (show _ = bnd (gd (t.length ≤ SZ ∧ n + 2 ≤ SZ) (escM (t.drop n) n)) (fun v => oB (bindT (.inl [6, 7]) v [.str t, .int n, .str [q], .ref o, .int z, .str [c], w6, w7]) fun σ => execKs T19 (tlN n_scan_string_B4) σ K B R) H by kernel_rfl).trans ?_
  rw [gd_of ht, h n]
  exact (show _ = hB (recvK (.ref o) 0) (fun f => bnd (methV T19 f (.ref o) 0 [.str []]) fun z' => K [.str t, .int ((n + 1 : Nat) : Int), .str [q], .ref o, .int 2, .str [c], .str [], .int ((n + 1 : Nat) : Int)]) H by kernel_rfl).trans (append_K ho hz)
end
theorem drop_cat {t : List Nat} {n : Nat} {a s : List Nat} (h : t.drop n = a ++ s) : t.drop (n + a.length) = s := drop_add h
theorem not_f {b : Bool} (h : (!b) = true) : b = false := not_t h

theorem str_loop {t : List Nat} {q o : Nat} {rest : List Nat} (hq : isLE q = false) (hq2 : ([92] == [q]) = false) (ht : t.length + 2 ≤ SZ) {body : List Nat} {cks : List (List Nat)} {b : Bool} (hr : Run (okS q) (q :: rest) body cks b) :
    ∀ (n k : Nat) (acc : List (List Nat)) (b0 : Bool) (w5 w6 w7 : V) (H : Hp), t.drop n = body ++ q :: rest → cks.length < k → H[o]? = some (.list (acc.map .str)) → acc.length + cks.length < SZ → (acc ++ cks).flatten.length ≤ SZ →
    ∃ σ, whileN (evalB T19 n_scan_string_L6c) (execSs T19 n_scan_string_L6b) k [.str t, .int n, .str [q], .ref o, .int (stI b0), w5, w6, w7] H =
      some ((.rtn (.tup [.str (acc ++ cks).flatten, .int ((n + body.length + 1 : Nat) : Int), .int (stI (b0 || b))]), σ), H.set o (.list ((acc ++ cks).map .str))) := by
  have snoc : ∀ (acc : List (List Nat)) (x : List Nat), acc.map V.str ++ [.str x] = (acc ++ [x]).map .str := fun acc x => by rw [List.map_append]; rfl
  have two : ∀ {n c : Nat} {s : List Nat}, t.drop n = c :: s → t.length ≤ SZ ∧ n + 2 ≤ SZ := fun h => by have := (drop_lt h).1; omega
  induction hr with
  | nil =>
    intro n k acc b0 w5 w6 w7 H h hk ho hz hf
    cases k with
    | zero => exact absurd hk (Nat.not_lt_zero _)
    | succ k =>
      refine ⟨[.str t, .int n, .str [q], .ref o, .int (stI b0), .str [q], w6, w7], while_le H _ ?_⟩
      rw [str_test h, bM_f hq, str_body h, bM_t (by rw [beq_self_eq_true])]
      rw [List.append_nil] at hf ⊢
      refine (bnd_of (join_ok ho hf)).trans ?_
      rw [set_same ho, Bool.or_false]; rfl
  | @plain c body cks b hp hr ih =>
    intro n k acc b0 w5 w6 w7 H h hk ho hz hf
    cases k with
    | zero => exact absurd hk (Nat.not_lt_zero _)
    | succ k =>
      unfold okS at hp
      rw [Bool.and_eq_true, Bool.and_eq_true] at hp
      have h : t.drop n = c :: (body ++ q :: rest) := h
      rw [List.length_cons] at hk hz
      obtain ⟨σ, ih⟩ := ih (n + 1) k (acc ++ [[c]]) (b0 || far c) (.str [c]) w6 w7 (H.set o (.list ((acc ++ [[c]]).map .str))) (drop_succ h) (Nat.lt_of_succ_lt_succ hk) (set_get ho) (by rw [List.length_append, List.length_singleton]; omega) (by rw [List.append_assoc]; exact hf)
      refine ⟨σ, while_le H _ ?_⟩
      rw [str_test h, bM_f (not_t hp.1), str_body h, bM_f (not_t hp.2.1), bM_f (not_t hp.2.2)]
      refine (str_plain ho (by rw [List.length_map]; omega)).trans ?_
      rw [snoc, ih, List.set_set, List.append_assoc, Bool.or_assoc, List.length_cons, show n + 1 + body.length = n + (body.length + 1) by omega]; rfl
  | @esc e body ck cks b he hr ih =>
    intro n k acc b0 w5 w6 w7 H h hk ho hz hf
    cases k with
    | zero => exact absurd hk (Nat.not_lt_zero _)
    | succ k =>
      have h : t.drop n = 92 :: (e ++ body ++ q :: rest) := h
      rw [List.append_assoc] at h
      rw [List.length_cons] at hk hz
      have hd : t.drop (n + (e.length + 1)) = body ++ q :: rest := drop_add (a := 92 :: e) h
      obtain ⟨σ, ih⟩ := ih (n + (e.length + 1)) k (acc ++ [ck]) b0 (.str [92]) (.str ck) (.int ((n + (e.length + 1) : Nat) : Int)) (H.set o (.list ((acc ++ [ck]).map .str))) hd (Nat.lt_of_succ_lt_succ hk) (set_get ho) (by rw [List.length_append, List.length_singleton]; omega) (by rw [List.append_assoc]; exact hf)
      refine ⟨σ, while_le H _ ?_⟩
      rw [str_test h, bM_f (b := isLE 92) rfl, str_body h, bM_f hq2, bM_t (b := [92] == [92]) rfl]
      refine (str_esc ho (by rw [List.length_map]; omega) (two h) (by rw [h]; exact he)).trans ?_
      rw [snoc, ih, List.set_set, List.append_assoc, List.length_cons, List.length_append, show n + (e.length + 1) + body.length = n + (e.length + body.length + 1) by omega]; rfl
  | @fail body cks b he hr ih =>
    intro n k acc b0 w5 w6 w7 H h hk ho hz hf
    cases k with
    | zero => exact absurd hk (Nat.not_lt_zero _)
    | succ k =>
      have h : t.drop n = 92 :: (body ++ q :: rest) := h
      rw [List.length_cons] at hk hz
      obtain ⟨σ, ih⟩ := ih (n + 1) k (acc ++ [[]]) true (.str [92]) (.str []) (.int ((n + 1 : Nat) : Int)) (H.set o (.list ((acc ++ [[]]).map .str))) (drop_succ h) (Nat.lt_of_succ_lt_succ hk) (set_get ho) (by rw [List.length_append, List.length_singleton]; omega) (by rw [List.append_assoc]; exact hf)
      refine ⟨σ, while_le H _ ?_⟩
      rw [str_test h, bM_f (b := isLE 92) rfl, str_body h, bM_f hq2, bM_t (b := [92] == [92]) rfl]
      refine (str_fail ho (by rw [List.length_map]; omega) (two h) (by rw [h]; exact he)).trans ?_
      refine Eq.trans ?_ (ih.trans ?_)
      · rw [snoc]; rfl
      · rw [List.set_set, List.append_assoc, Bool.or_true, List.length_cons, show n + 1 + body.length = n + (body.length + 1) by omega]; rfl

theorem run_len {P : Nat → List Nat → Bool} {rest body : List Nat} {cks : List (List Nat)} {b : Bool} (h : Run P rest body cks b) : cks.length ≤ body.length := by
  induction h with
  | nil => exact Nat.le_refl _
  | plain _ _ ih => exact Nat.succ_le_succ ih
  | esc _ _ ih => rw [List.length_cons, List.length_cons, List.length_append]; omega
  | fail _ _ ih => exact Nat.succ_le_succ ih

noncomputable def f_scan_string : Fn := trunc 0 (runF T19 8 2 n_scan_string)
theorem scan_string_ok {t : List Nat} {n q : Nat} {rest body : List Nat} {cks : List (List Nat)} {b : Bool} {H : Hp} (hq : isLE q = false) (hq2 : ([92] == [q]) = false) (ht : t.length + 2 ≤ SZ) (hr : Run (okS q) (q :: rest) body cks b) (h : t.drop n = q :: (body ++ q :: rest)) (hf : cks.flatten.length ≤ SZ) :
    f_scan_string [.str t, .int n] H = some (.tup [.str cks.flatten, .int ((n + body.length + 2 : Nat) : Int), .int (stI b)], H) := by
  have z : SZ = 100000 := rfl
  have hl := run_len hr
  have hb : body.length < t.length := by
    have := congrArg List.length h
    rw [List.length_drop, List.length_cons, List.length_append] at this
    omega
  obtain ⟨σ, hw⟩ := str_loop (o := H.length) hq hq2 ht hr (n + 1) FUEL [] false .undef .undef .undef (H ++ [.list []]) (drop_succ h) (Nat.lt_of_le_of_lt (show cks.length ≤ SZ by omega) (by decide)) get_new (by rw [List.length_nil]; omega) hf
  rw [set_new] at hw
  refine trunc_eq (G := [.list (cks.map .str)]) (runK_le H _ ?_) rfl rfl closed_same
  refine (show _ = bnd (idxV (.str t) (.int n)) (fun v => execKs T19 (tlN n_scan_string) [.str t, .int n, v, .undef, .undef, .undef, .undef, .undef] (fun z' => ret .none) (fun z' => failM) fun v z' => ret v) H by kernel_rfl).trans ?_
  rw [idx_str h]
  refine (show _ = bnd (whileN (evalB T19 n_scan_string_L6c) (execSs T19 n_scan_string_L6b) FUEL [.str t, .int ((n + 1 : Nat) : Int), .str [q], .ref H.length, .int (stI false), .undef, .undef, .undef]) (endK T19 n_scan_string_T7) (H ++ [.list []]) by kernel_rfl).trans ((bnd_of hw).trans ?_)
  rw [show n + 1 + body.length + 1 = n + body.length + 2 by omega]; rfl
noncomputable def T20 : Tab := extT T19 381 f_scan_string

noncomputable def f_read_string : Fn := runF T20 5 2 n_read_string
theorem read_string_ok {t : List Nat} {n q : Nat} {rest body : List Nat} {cks : List (List Nat)} {b : Bool} {H : Hp} (hq : isLE q = false) (hq2 : ([92] == [q]) = false) (ht : t.length + 2 ≤ SZ) (hr : Run (okS q) (q :: rest) body cks b) (h : t.drop n = q :: (body ++ q :: rest)) (hf : cks.flatten.length ≤ SZ) :
    f_read_string [.str t, .int n] H = some (.tup [.str cks.flatten, .int ((n + body.length + 2 : Nat) : Int), .bool (!b)], H) := by
  refine runK_le H _ ((show _ = bnd (f_scan_string [.str t, .int n]) (fun v => oB (bindT (.inl [2, 3, 4]) v [.str t, .int n, .undef, .undef, .undef]) fun σ => execKs T20 (tlN n_read_string) σ (fun z' => ret .none) (fun z' => failM) fun v z' => ret v) H by kernel_rfl).trans ((bnd_of (scan_string_ok hq hq2 ht hr h hf)).trans ?_))
  cases b <;> kernel_rfl
noncomputable def T21 : Tab := extT T20 388 f_read_string

noncomputable def isHole (s : List Nat) : Bool := [pk s] == [36] && [pk (s.drop 1)] == [123]
noncomputable def f_is_hole : Fn := fnSN fun t n => rB (isHole (t.drop n))
theorem ok_is_hole : ∀ args, Le (f_is_hole args) (runF T21 2 2 n_is_hole args) :=
  fnSN_le fun t n => .run (by unfold isHole; rw [List.drop_drop]; exact and_ret.symm.trans (by kernel_rfl))
noncomputable def T22 : Tab := extT T21 395 f_is_hole

def okT (c : Nat) (s : List Nat) : Bool := !([c] == [96]) && (!([c] == [36] && [pk s] == [123]) && (!([c] == [92]) && !([c] == [13])))
section
variable {t : List Nat} {n o c : Nat} {s : List Nat} {w4 w5 w6 : V} {b : Bool} {H : Hp} {K B : List V → Ms} {R : V → List V → Ms}
theorem tp_test {σ : List V} {kt kf : Ms} (h : t.drop n = c :: s) : testK T22 n_scan_template_L10c (.str t :: .int n :: σ) kt kf = kt := by
  refine (show _ = bM (decide ((n : Int) < (t.length : Int))) kt kf by kernel_rfl).trans ?_
  rw [lt_dec h]; rfl
theorem tp_body (h : t.drop n = c :: s) : execKs T22 n_scan_template_L10b [.str t, .int n, .ref o, .bool b, w4, w5, w6] K B R =
    bM ([c] == [96]) (bnd (bmeth (.str []) 3 [.ref o]) fun v => R (.tup [v, .int ((n + 1 : Nat) : Int), .int 1, .bool b]) [.str t, .int n, .ref o, .bool b, .str [c], w5, w6])
      (bM ([c] == [36] && [pk s] == [123]) (bnd (bmeth (.str []) 3 [.ref o]) fun v => R (.tup [v, .int ((n + 2 : Nat) : Int), .int 0, .bool b]) [.str t, .int n, .ref o, .bool b, .str [c], w5, w6])
      (bM ([c] == [92]) (execKs T22 n_scan_template_B5 [.str t, .int n, .ref o, .bool b, .str [c], w5, w6] K B R) (bM ([c] == [13]) (execKs T22 n_scan_template_B6 [.str t, .int n, .ref o, .bool b, .str [c], w5, w6] K B R) (execKs T22 n_scan_template_B8 [.str t, .int n, .ref o, .bool b, .str [c], w5, w6] K B R)))) := by
  refine (show _ = bnd (idxV (.str t) (.int n)) (fun v => execKs T22 (tlN n_scan_template_L10b) [.str t, .int n, .ref o, .bool b, v, w5, w6] K B R) by kernel_rfl).trans ?_
  rw [idx_str h]
  have e : isHole (t.drop n) = ([c] == [36] && [pk s] == [123]) := by rw [h]; rfl
  rw [← e]
  kernel_rfl
theorem tp_plain {acc : List V} (ho : H[o]? = some (.list acc)) (hz : acc.length < SZ) : execKs T22 n_scan_template_B8 [.str t, .int n, .ref o, .bool b, .str [c], w5, w6] K B R H =
    K [.str t, .int ((n + 1 : Nat) : Int), .ref o, .bool (b || far c), .str [c], w5, w6] (H.set o (.list (acc ++ [.str [c]]))) := by
  let A : Bool → Ms := fun z => hB (recvK (.ref o) 0) fun f => bnd (methV T22 f (.ref o) 0 [.str [c]]) fun z' => K [.str t, .int ((n + 1 : Nat) : Int), .ref o, .bool z, .str [c], w5, w6]
  refine (show _ = bM b (A b) (A (far c)) H by kernel_rfl).trans ?_
  rw [bM_arg]
  refine (append_K ho hz).trans ?_
  cases b <;> cases far c <;> rfl
theorem tp_esc {acc : List V} (ho : H[o]? = some (.list acc)) (hz : acc.length < SZ) (ht : t.length ≤ SZ ∧ n + 2 ≤ SZ) {ck : List Nat} {k : Nat} (h : EscIs (t.drop n) (some (ck, k))) :
    execKs T22 n_scan_template_B5 [.str t, .int n, .ref o, .bool b, .str [c], w5, w6] K B R H = K [.str t, .int ((n + k : Nat) : Int), .ref o, .bool b, .str [c], .str ck, .int ((n + k : Nat) : Int)] (H.set o (.list (acc ++ [.str ck]))) := by
  refine (show _ = bnd (gd (t.length ≤ SZ ∧ n + 2 ≤ SZ) (escM (t.drop n) n)) (fun v => oB (bindT (.inl [5, 6]) v [.str t, .int n, .ref o, .bool b, .str [c], w5, w6]) fun σ => execKs T22 (tlN n_scan_template_B5) σ K B R) H by kernel_rfl).trans ?_
  rw [gd_of ht, h n]
  exact (show _ = hB (recvK (.ref o) 0) (fun f => bnd (methV T22 f (.ref o) 0 [.str ck]) fun z' => K [.str t, .int ((n + k : Nat) : Int), .ref o, .bool b, .str [c], .str ck, .int ((n + k : Nat) : Int)]) H by kernel_rfl).trans (append_K ho hz)
theorem tp_fail {acc : List V} (ho : H[o]? = some (.list acc)) (hz : acc.length < SZ) (ht : t.length ≤ SZ ∧ n + 2 ≤ SZ) (h : EscIs (t.drop n) none) :
    execKs T22 n_scan_template_B5 [.str t, .int n, .ref o, .bool b, .str [c], w5, w6] K B R H = K [.str t, .int ((n + 1 : Nat) : Int), .ref o, .bool true, .str [c], .str [], .int ((n + 1 : Nat) : Int)] (H.set o (.list (acc ++ [.str []]))) := by
  refine (show _ = bnd (gd (t.length ≤ SZ ∧ n + 2 ≤ SZ) (escM (t.drop n) n)) (fun v => oB (bindT (.inl [5, 6]) v [.str t, .int n, .ref o, .bool b, .str [c], w5, w6]) fun σ => execKs T22 (tlN n_scan_template_B5) σ K B R) H by kernel_rfl).trans ?_
  rw [gd_of ht, h n]
  exact (show _ = hB (recvK (.ref o) 0) (fun f => bnd (methV T22 f (.ref o) 0 [.str []]) fun z' => K [.str t, .int ((n + 1 : Nat) : Int), .ref o, .bool true, .str [c], .str [], .int ((n + 1 : Nat) : Int)]) H by kernel_rfl).trans (append_K ho hz)
end
end

section

def TplEnd (rest : List Nat) (w cl : Nat) : Prop := (∃ r, rest = 96 :: r ∧ w = 1 ∧ cl = 1) ∨ ∃ r, rest = 36 :: 123 :: r ∧ w = 2 ∧ cl = 0

theorem tp_loop {t : List Nat} {o w cl : Nat} {rest : List Nat} (he : TplEnd rest w cl) (ht : t.length + 2 ≤ SZ) {body : List Nat} {cks : List (List Nat)} {b : Bool} (hr : Run okT rest body cks b) :
    ∀ (n k : Nat) (acc : List (List Nat)) (b0 : Bool) (w4 w5 w6 : V) (H : Hp), t.drop n = body ++ rest → cks.length < k → H[o]? = some (.list (acc.map .str)) → acc.length + cks.length < SZ → (acc ++ cks).flatten.length ≤ SZ →
    ∃ σ, whileN (evalB T22 n_scan_template_L10c) (execSs T22 n_scan_template_L10b) k [.str t, .int n, .ref o, .bool b0, w4, w5, w6] H =
      some ((.rtn (.tup [.str (acc ++ cks).flatten, .int ((n + body.length + w : Nat) : Int), .int cl, .bool (b0 || b)]), σ), H.set o (.list ((acc ++ cks).map .str))) := by
  have snoc : ∀ (acc : List (List Nat)) (x : List Nat), acc.map V.str ++ [.str x] = (acc ++ [x]).map .str := fun acc x => by rw [List.map_append]; rfl
  have two : ∀ {n c : Nat} {s : List Nat}, t.drop n = c :: s → t.length ≤ SZ ∧ n + 2 ≤ SZ := fun h => by have := (drop_lt h).1; omega
  induction hr with
  | nil =>
    intro n k acc b0 w4 w5 w6 H h hk ho hz hf
    cases k with
    | zero => exact absurd hk (Nat.not_lt_zero _)
    | succ k =>
      rw [List.append_nil] at hf ⊢
      rcases he with ⟨r, rfl, rfl, rfl⟩ | ⟨r, rfl, rfl, rfl⟩
      · refine ⟨[.str t, .int n, .ref o, .bool b0, .str [96], w5, w6], while_le H _ ?_⟩
        rw [tp_test h, tp_body h, bM_t (b := [96] == [96]) rfl]
        refine (bnd_of (join_ok ho hf)).trans ?_
        rw [set_same ho, Bool.or_false]; rfl
      · refine ⟨[.str t, .int n, .ref o, .bool b0, .str [36], w5, w6], while_le H _ ?_⟩
        rw [tp_test h, tp_body h, bM_f (b := [36] == [96]) rfl, bM_t (b := [36] == [36] && [pk (123 :: r)] == [123]) rfl]
        refine (bnd_of (join_ok ho hf)).trans ?_
        rw [set_same ho, Bool.or_false]; rfl
  | @plain c body cks b hp hr ih =>
    intro n k acc b0 w4 w5 w6 H h hk ho hz hf
    cases k with
    | zero => exact absurd hk (Nat.not_lt_zero _)
    | succ k =>
      unfold okT at hp
      rw [Bool.and_eq_true, Bool.and_eq_true, Bool.and_eq_true] at hp
      have h : t.drop n = c :: (body ++ rest) := h
      rw [List.length_cons] at hk hz
      obtain ⟨σ, ih⟩ := ih (n + 1) k (acc ++ [[c]]) (b0 || far c) (.str [c]) w5 w6 (H.set o (.list ((acc ++ [[c]]).map .str))) (drop_succ h) (Nat.lt_of_succ_lt_succ hk) (set_get ho) (by rw [List.length_append, List.length_singleton]; omega) (by rw [List.append_assoc]; exact hf)
      refine ⟨σ, while_le H _ ?_⟩
      rw [tp_test h, tp_body h, bM_f (not_t hp.1), bM_f (not_t hp.2.1), bM_f (not_t hp.2.2.1), bM_f (not_t hp.2.2.2)]
      refine (tp_plain ho (by rw [List.length_map]; omega)).trans ?_
      rw [snoc, ih, List.set_set, List.append_assoc, Bool.or_assoc, List.length_cons, show n + 1 + body.length = n + (body.length + 1) by omega]; rfl
  | @esc e body ck cks b he hr ih =>
    intro n k acc b0 w4 w5 w6 H h hk ho hz hf
    cases k with
    | zero => exact absurd hk (Nat.not_lt_zero _)
    | succ k =>
      have h : t.drop n = 92 :: (e ++ body ++ rest) := h
      rw [List.append_assoc] at h
      rw [List.length_cons] at hk hz
      have hd : t.drop (n + (e.length + 1)) = body ++ rest := drop_add (a := 92 :: e) h
      obtain ⟨σ, ih⟩ := ih (n + (e.length + 1)) k (acc ++ [ck]) b0 (.str [92]) (.str ck) (.int ((n + (e.length + 1) : Nat) : Int)) (H.set o (.list ((acc ++ [ck]).map .str))) hd (Nat.lt_of_succ_lt_succ hk) (set_get ho) (by rw [List.length_append, List.length_singleton]; omega) (by rw [List.append_assoc]; exact hf)
      refine ⟨σ, while_le H _ ?_⟩
      rw [tp_test h, tp_body h, bM_f (b := [92] == [96]) rfl, bM_f (b := [92] == [36] && _) rfl, bM_t (b := [92] == [92]) rfl]
      refine (tp_esc ho (by rw [List.length_map]; omega) (two h) (by rw [h]; exact he)).trans ?_
      rw [snoc, ih, List.set_set, List.append_assoc, List.length_cons, List.length_append, show n + (e.length + 1) + body.length = n + (e.length + body.length + 1) by omega]; rfl
  | @fail body cks b he hr ih =>
    intro n k acc b0 w4 w5 w6 H h hk ho hz hf
    cases k with
    | zero => exact absurd hk (Nat.not_lt_zero _)
    | succ k =>
      have h : t.drop n = 92 :: (body ++ rest) := h
      rw [List.length_cons] at hk hz
      obtain ⟨σ, ih⟩ := ih (n + 1) k (acc ++ [[]]) true (.str [92]) (.str []) (.int ((n + 1 : Nat) : Int)) (H.set o (.list ((acc ++ [[]]).map .str))) (drop_succ h) (Nat.lt_of_succ_lt_succ hk) (set_get ho) (by rw [List.length_append, List.length_singleton]; omega) (by rw [List.append_assoc]; exact hf)
      refine ⟨σ, while_le H _ ?_⟩
      rw [tp_test h, tp_body h, bM_f (b := [92] == [96]) rfl, bM_f (b := [92] == [36] && _) rfl, bM_t (b := [92] == [92]) rfl]
      refine (tp_fail ho (by rw [List.length_map]; omega) (two h) (by rw [h]; exact he)).trans ?_
      refine Eq.trans ?_ (ih.trans ?_)
      · rw [snoc]
      · rw [List.set_set, List.append_assoc, Bool.or_true, List.length_cons, show n + 1 + body.length = n + (body.length + 1) by omega]; rfl

noncomputable def f_scan_template : Fn := trunc 0 (runF T22 7 2 n_scan_template)
section
variable {t : List Nat} {n q w cl : Nat} {rest body : List Nat} {cks : List (List Nat)} {b : Bool} {H : Hp}
theorem scan_template_ok (he : TplEnd rest w cl) (ht : t.length + 2 ≤ SZ) (hr : Run okT rest body cks b) (h : t.drop n = q :: (body ++ rest)) (hf : cks.flatten.length ≤ SZ) :
    f_scan_template [.str t, .int n] H = some (.tup [.str cks.flatten, .int ((n + 1 + body.length + w : Nat) : Int), .int cl, .bool b], H) := by
  have z : SZ = 100000 := rfl
  have hl := run_len hr
  have hb : body.length ≤ t.length := by
    have := congrArg List.length h
    rw [List.length_drop, List.length_cons, List.length_append] at this
    omega
  obtain ⟨σ, hw⟩ := tp_loop (o := H.length) he ht hr (n + 1) FUEL [] false .undef .undef .undef (H ++ [.list []]) (drop_succ h) (Nat.lt_of_le_of_lt (show cks.length ≤ SZ by omega) (by decide)) get_new (by rw [List.length_nil]; omega) hf
  rw [set_new] at hw
  refine trunc_eq (G := [.list (cks.map .str)]) (runK_le H _ ?_) rfl rfl closed_same
  exact (show _ = bnd (whileN (evalB T22 n_scan_template_L10c) (execSs T22 n_scan_template_L10b) FUEL [.str t, .int ((n + 1 : Nat) : Int), .ref H.length, .bool false, .undef, .undef, .undef]) (endK T22 n_scan_template_T11) (H ++ [.list []]) by kernel_rfl).trans ((bnd_of hw).trans rfl)
noncomputable def T23 : Tab := extT T22 402 f_scan_template

noncomputable def f_read_template : Fn := runF T23 6 2 n_read_template
theorem read_template_ok (he : TplEnd rest w cl) (ht : t.length + 2 ≤ SZ) (hr : Run okT rest body cks b) (h : t.drop n = q :: (body ++ rest)) (hf : cks.flatten.length ≤ SZ) :
    f_read_template [.str t, .int n] H = some (.tup [.str cks.flatten, .int ((n + 1 + body.length + w : Nat) : Int), .int (bif b then 2 else cl)], H) := by
  refine runK_le H _ ((show _ = bnd (f_scan_template [.str t, .int n]) (fun v => oB (bindT (.inl [2, 3, 4, 5]) v [.str t, .int n, .undef, .undef, .undef, .undef]) fun σ => execKs T23 (tlN n_read_template) σ (fun z' => ret .none) (fun z' => failM) fun v z' => ret v) H by kernel_rfl).trans ((bnd_of (scan_template_ok he ht hr h hf)).trans ?_))
  cases b <;> kernel_rfl
end
noncomputable def T24 : Tab := extT T23 409 f_read_template
end

section

def isB (c : Nat) : Bool := isLE c || ([c] == [32] || [c] == [9])
def stopB : List Nat → Prop
  | [] => True
  | c :: _ => isB c = false ∧ ([c] == [47]) = false
section
variable {t : List Nat} {n c : Nat} {s : List Nat} {w3 w4 w5 : V} {b : Bool} {H : Hp} {K B : List V → Ms} {R : V → List V → Ms}
theorem sk_body (h : t.drop n = c :: s) : execKs T24 n_skip_blank_L7b [.str t, .int n, .bool b, w3, w4, w5] K B R =
    bM (isLE c) (K [.str t, .int ((n + 1 : Nat) : Int), .bool true, .str [c], w4, w5]) (bM ([c] == [32] || [c] == [9]) (K [.str t, .int ((n + 1 : Nat) : Int), .bool b, .str [c], w4, w5])
      (bM ([c] == [47]) (bM ([pk (t.drop (n + 1))] == [47]) failM (bM ([c] == [47]) (bM ([pk (t.drop (n + 1))] == [42]) failM (B [.str t, .int n, .bool b, .str [c], w4, w5])) (B [.str t, .int n, .bool b, .str [c], w4, w5])))
        (bM ([c] == [47]) (bM ([pk (t.drop (n + 1))] == [42]) failM (B [.str t, .int n, .bool b, .str [c], w4, w5])) (B [.str t, .int n, .bool b, .str [c], w4, w5])))) := by
  refine (show _ = bnd (idxV (.str t) (.int n)) (fun v => execKs T24 (tlN n_skip_blank_L7b) [.str t, .int n, .bool b, v, w4, w5] K B R) by kernel_rfl).trans ?_
  rw [idx_str h, bM_or]
  kernel_rfl
end
theorem sk_loop {t s : List Nat} {H : Hp} (hs : stopB s) : ∀ (bs : List Nat) (n k : Nat) (b : Bool) (w3 w4 w5 : V), t.drop n = bs ++ s → bs.length < k → bs.all isB = true →
    ∃ w, whileN (evalB T24 n_skip_blank_L7c) (execSs T24 n_skip_blank_L7b) k [.str t, .int n, .bool b, w3, w4, w5] H = some ((.next, [.str t, .int ((n + bs.length : Nat) : Int), .bool (b || bs.any isLE), w, w4, w5]), H)
  | [], n, k + 1, b, w3, w4, w5, h, _, _ => by
    have tree : ∀ X : Ms, testK T24 n_skip_blank_L7c [.str t, .int n, .bool b, w3, w4, w5] X (ret (.next, [.str t, .int n, .bool b, w3, w4, w5])) H = bM (decide ((n : Int) < (t.length : Int))) X (ret (.next, [.str t, .int n, .bool b, w3, w4, w5])) H := fun X => by kernel_rfl
    cases s with
    | nil =>
      refine ⟨w3, while_le H _ ((tree _).trans ?_)⟩
      rw [lt_end h, List.any_nil, Bool.or_false]; rfl
    | cons c s =>
      obtain ⟨h1, h2⟩ := hs
      unfold isB at h1
      rw [Bool.or_eq_false_iff] at h1
      refine ⟨.str [c], while_le H _ ((tree _).trans ?_)⟩
      rw [lt_dec h, bM_t rfl, sk_body h, bM_f h1.1, bM_f h1.2, bM_f h2, bM_f h2, List.any_nil, Bool.or_false]; rfl
  | c :: bs, n, k + 1, b, w3, w4, w5, h, hk, hb => by
    rw [List.all_cons, Bool.and_eq_true] at hb
    have h : t.drop n = c :: (bs ++ s) := h
    have e : n + 1 + bs.length = n + (bs.length + 1) := by omega
    have tree : ∀ X Y : Ms, testK T24 n_skip_blank_L7c [.str t, .int n, .bool b, w3, w4, w5] X Y H = bM (decide ((n : Int) < (t.length : Int))) X Y H := fun X Y => by kernel_rfl
    cases hl : isLE c with
    | true =>
      obtain ⟨w, ih⟩ := sk_loop hs bs (n + 1) k true (.str [c]) w4 w5 (drop_succ h) (Nat.lt_of_succ_lt_succ hk) hb.2
      refine ⟨w, while_le H _ ((tree _ _).trans ?_)⟩
      rw [lt_dec h, bM_t rfl, sk_body h, bM_t hl, ih, e, List.any_cons, hl, Bool.true_or, Bool.or_true]; rfl
    | false =>
      obtain ⟨w, ih⟩ := sk_loop hs bs (n + 1) k b (.str [c]) w4 w5 (drop_succ h) (Nat.lt_of_succ_lt_succ hk) hb.2
      have h2 : ([c] == [32] || [c] == [9]) = true := by
        have := hb.1
        unfold isB at this
        rw [hl, Bool.false_or] at this; exact this
      refine ⟨w, while_le H _ ((tree _ _).trans ?_)⟩
      rw [lt_dec h, bM_t rfl, sk_body h, bM_f hl, bM_t h2, ih, e, List.any_cons, hl, Bool.false_or]; rfl
noncomputable def f_skip_blank : Fn := runF T24 6 2 n_skip_blank
theorem skip_ok {t s bs : List Nat} {n : Nat} {H : Hp} (hs : stopB s) (h : t.drop n = bs ++ s) (hb : bs.all isB = true) (hz : bs.length < FUEL) : f_skip_blank [.str t, .int n] H = some (.tup [.int ((n + bs.length : Nat) : Int), .bool (bs.any isLE), .bool true], H) := by
  obtain ⟨w, hl⟩ := sk_loop (H := H) hs bs n FUEL false .undef .undef .undef h hz hb
  exact runK_le H _ ((show _ = bnd (whileN (evalB T24 n_skip_blank_L7c) (execSs T24 n_skip_blank_L7b) FUEL [.str t, .int n, .bool false, .undef, .undef, .undef]) (endK T24 n_skip_blank_T8) H by kernel_rfl).trans ((bnd_of hl).trans rfl))
noncomputable def T25 : Tab := extT T24 325 f_skip_blank

theorem rn_loop {t s : List Nat} {H : Hp} (hs : isNP (pk s) = false) : ∀ (ws : List Nat) (n k : Nat), t.drop n = ws ++ s → ws.length < k → ws.all isNP = true →
    whileN (evalB T25 n_scanner_read_name_L1c) (execSs T25 n_scanner_read_name_L1b) k [.str t, .int n] H = some ((.next, [.str t, .int ((n + ws.length : Nat) : Int)]), H)
  | [], n, k + 1, h, _, _ => while_le H _ ((show _ = bM (isNP (pk (t.drop n))) (whileN (evalB T25 n_scanner_read_name_L1c) (execSs T25 n_scanner_read_name_L1b) k [.str t, .int ((n + 1 : Nat) : Int)]) (ret (Fl.next, [.str t, .int n])) H by kernel_rfl).trans (by
      have h : t.drop n = s := h
      rw [h, hs]; rfl))
  | c :: ws, n, k + 1, h, hk, hb => while_le H _ ((show _ = bM (isNP (pk (t.drop n))) (whileN (evalB T25 n_scanner_read_name_L1c) (execSs T25 n_scanner_read_name_L1b) k [.str t, .int ((n + 1 : Nat) : Int)]) (ret (Fl.next, [.str t, .int n])) H by kernel_rfl).trans (by
      rw [List.all_cons, Bool.and_eq_true] at hb
      have h : t.drop n = c :: (ws ++ s) := h
      have hp : isNP (pk (t.drop n)) = true := by rw [h]; exact hb.1
      rw [hp, bM_t rfl, rn_loop hs ws (n + 1) k (drop_succ h) (Nat.lt_of_succ_lt_succ hk) hb.2, List.length_cons, show n + 1 + ws.length = n + (ws.length + 1) by omega]))
noncomputable def f_read_name : Fn := runF T25 2 2 n_scanner_read_name
theorem read_name_ok {t s ws : List Nat} {n : Nat} {H : Hp} (hs : isNP (pk s) = false) (h : t.drop n = ws ++ s) (hw : ws.all isNP = true) (hz : ws.length < FUEL) : f_read_name [.str t, .int n] H = some (.int ((n + ws.length : Nat) : Int), H) :=
  runK_le H _ ((show _ = bnd (whileN (evalB T25 n_scanner_read_name_L1c) (execSs T25 n_scanner_read_name_L1b) FUEL [.str t, .int n]) (endK T25 n_scanner_read_name_T2) H by kernel_rfl).trans ((bnd_of (rn_loop hs ws n FUEL h hz hw)).trans rfl))
noncomputable def T26 : Tab := extT T25 423 f_read_name

noncomputable def f_num_tail : Fn := runF T26 2 2 n_skip_number_tail
theorem num_tail_ok {t : List Nat} {n : Nat} {H : Hp} (h1 : isNP (pk (t.drop n)) = false) (h2 : ([pk (t.drop n)] == [46]) = false) : f_num_tail [.str t, .int n] H = some (.int n, H) := by
  have hl : whileN (evalB T26 n_skip_number_tail_L1c) (execSs T26 n_skip_number_tail_L1b) FUEL [.str t, .int n] H = some ((.next, [.str t, .int n]), H) := by
    refine while_le (n := 999999) H _ ((show _ = bM (isNP (pk (t.drop n))) (whileN (evalB T26 n_skip_number_tail_L1c) (execSs T26 n_skip_number_tail_L1b) 999999 [.str t, .int ((n + 1 : Nat) : Int)]) (bM ([pk (t.drop n)] == [46]) (whileN (evalB T26 n_skip_number_tail_L1c) (execSs T26 n_skip_number_tail_L1b) 999999 [.str t, .int ((n + 1 : Nat) : Int)]) (ret (Fl.next, [.str t, .int n]))) H by kernel_rfl).trans ?_)
    rw [h1, h2]; rfl
  exact runK_le H _ ((show _ = bnd (whileN (evalB T26 n_skip_number_tail_L1c) (execSs T26 n_skip_number_tail_L1b) FUEL [.str t, .int n]) (endK T26 n_skip_number_tail_T2) H by kernel_rfl).trans ((bnd_of hl).trans rfl))
noncomputable def T27 : Tab := extT T26 346 f_num_tail

noncomputable def f_base_at : Fn := runF T27 3 2 n_scanner_base_at
def noBase (c : Nat) : Bool := !([c] == [120]) && (!([c] == [88]) && (!([c] == [111]) && (!([c] == [79]) && (!([c] == [98]) && !([c] == [66])))))
theorem base_at_ok {t s : List Nat} {n c : Nat} {H : Hp} (h : t.drop n = c :: s) (hb : noBase (pk s) = true) : f_base_at [.str t, .int n] H = some (.int 10, H) := by
  refine runK_le H _ ((show _ = bnd (idxV (.str t) (.int n)) (fun v => hB (cmpB .NotEq v (.str [48])) fun r => bM r (rI 10) (bM ([pk (t.drop (n + 1))] == [120]) (rI 16) (bM ([pk (t.drop (n + 1))] == [88]) (rI 16) (bM ([pk (t.drop (n + 1))] == [111]) (rI 8) (bM ([pk (t.drop (n + 1))] == [79]) (rI 8)
    (bM ([pk (t.drop (n + 1))] == [98]) (rI 2) (bM ([pk (t.drop (n + 1))] == [66]) (rI 2) (rI 10)))))))) H by kernel_rfl).trans ?_)
  unfold noBase at hb
  simp only [Bool.and_eq_true, Bool.not_eq_true'] at hb
  rw [idx_str h, drop_succ h, hb.1, hb.2.1, hb.2.2.1, hb.2.2.2.1, hb.2.2.2.2.1, hb.2.2.2.2.2]
  show bM (!([c] == [48])) (rI 10) (rI 10) H = _
  cases ([c] == [48]) <;> rfl
noncomputable def T28 : Tab := extT T27 332 f_base_at

def numV : List Nat → Nat → Nat
  | [], a => a
  | c :: s, a => numV s (a * 10 + dvN c)
def noDig (c : Nat) : Bool := !([c] == [95]) && decide ((dvN c : Int) ≥ 10)
def stopD : List Nat → Prop
  | [] => True
  | c :: _ => noDig c = true
def dig (c : Nat) : Bool := !([c] == [95]) && decide ((dvN c : Int) ≤ 9)
section
variable {t : List Nat} {n c a cnt : Nat} {s : List Nat} {w7 w8 : V} {u : Bool} {H : Hp} {K B : List V → Ms} {R : V → List V → Ms}
theorem rd_body (h : t.drop n = c :: s) (hc : ([c] == [95]) = false) (ha : a ≤ 4000000000000000000) : execKs T28 n_read_digits_L4b [.str t, .int n, .int 10, .int a, .int cnt, .bool true, .bool u, w7, w8] K B R =
    bM (decide ((dvN c : Int) ≥ 10)) (B [.str t, .int n, .int 10, .int a, .int cnt, .bool true, .bool u, .str [c], .int (dvN c)]) (K [.str t, .int ((n + 1 : Nat) : Int), .int 10, .int ((a * 10 + dvN c : Nat) : Int), .int ((cnt + 1 : Nat) : Int), .bool true, .bool false, .str [c], .int (dvN c)]) := by
  refine (show _ = bnd (idxV (.str t) (.int n)) (fun v => execKs T28 (tlN n_read_digits_L4b) [.str t, .int n, .int 10, .int a, .int cnt, .bool true, .bool u, v, w8] K B R) by kernel_rfl).trans ?_
  rw [idx_str h]
  let K' : List V → Ms := fun σ => execKs T28 (tlN (tlN n_read_digits_L4b)) σ K B R
  refine (show _ = bM ([c] == [95]) (execKs T28 (.cons (.asg 5 n_read_digits_E1) (.cons (.asg 6 (.lit (.bool .true))) .nil)) [.str t, .int n, .int 10, .int a, .int cnt, .bool true, .bool u, .str [c], w8] K' B R)
    (bM (decide ((dvN c : Int) ≥ 10)) (B [.str t, .int n, .int 10, .int a, .int cnt, .bool true, .bool u, .str [c], .int (dvN c)]) (bnd (gd ((smallI (a : Int) && smallI 10) = true) (ret (.int ((a * 10 : Nat) : Int)))) fun v => bnd (binV .Add v (.int (dvN c))) fun v => execKs T28 (tlN (tlN (tlN n_read_digits_B3))) [.str t, .int n, .int 10, v, .int cnt, .bool true, .bool u, .str [c], .int (dvN c)] K' B R)) by kernel_rfl).trans ?_
  rw [hc, gd_of (show (smallI (a : Int) && smallI 10) = true by rw [small_le ha]; rfl)]
  kernel_rfl
end
theorem rd_loop {t s : List Nat} {H : Hp} (hs : stopD s) : ∀ (ds : List Nat) (n k a cnt : Nat) (w7 w8 : V), t.drop n = ds ++ s → ds.length < k → ds.all dig = true → (a + 1) * 10 ^ ds.length ≤ 4000000000000000000 →
    ∃ σ, whileN (evalB T28 n_read_digits_L4c) (execSs T28 n_read_digits_L4b) k [.str t, .int n, .int 10, .int a, .int cnt, .bool true, .bool false, w7, w8] H =
      some ((.next, [.str t, .int ((n + ds.length : Nat) : Int), .int 10, .int (numV ds a), .int ((cnt + ds.length : Nat) : Int), .bool true, .bool false] ++ σ), H)
  | [], n, k + 1, a, cnt, w7, w8, h, _, _, ha => by
    have tree : ∀ X : Ms, testK T28 n_read_digits_L4c [.str t, .int n, .int 10, .int a, .int cnt, .bool true, .bool false, w7, w8] X (ret (.next, [.str t, .int n, .int 10, .int a, .int cnt, .bool true, .bool false, w7, w8])) H = bM (decide ((n : Int) < (t.length : Int))) X (ret (.next, [.str t, .int n, .int 10, .int a, .int cnt, .bool true, .bool false, w7, w8])) H := fun X => by kernel_rfl
    cases s with
    | nil => exact ⟨[w7, w8], while_le H _ ((tree _).trans (by rw [lt_end h]; rfl))⟩
    | cons c s =>
      have hs : noDig c = true := hs
      unfold noDig at hs
      rw [Bool.and_eq_true] at hs
      refine ⟨[.str [c], .int (dvN c)], while_le H _ ((tree _).trans ?_)⟩
      rw [lt_dec h, bM_t rfl, rd_body h (not_t hs.1) (by
        have ha : (a + 1) * 1 ≤ 4000000000000000000 := ha
        omega), hs.2]; rfl
  | c :: ds, n, k + 1, a, cnt, w7, w8, h, hk, hd, ha => by
    have tree : ∀ X Y : Ms, testK T28 n_read_digits_L4c [.str t, .int n, .int 10, .int a, .int cnt, .bool true, .bool false, w7, w8] X Y H = bM (decide ((n : Int) < (t.length : Int))) X Y H := fun X Y => by kernel_rfl
    rw [List.all_cons, Bool.and_eq_true] at hd
    have h : t.drop n = c :: (ds ++ s) := h
    have h1 := hd.1
    unfold dig at h1
    rw [Bool.and_eq_true, decide_eq_true_eq] at h1
    have h2 : decide ((dvN c : Int) ≥ 10) = false := decide_eq_false (by omega)
    have ha1 : a + 1 ≤ 4000000000000000000 := Nat.le_trans (Nat.le_mul_of_pos_right _ (Nat.pow_pos (by decide))) ha
    obtain ⟨σ, ih⟩ := rd_loop (t := t) (H := H) hs ds (n + 1) k (a * 10 + dvN c) (cnt + 1) (.str [c]) (.int (dvN c)) (drop_succ h) (Nat.lt_of_succ_lt_succ hk) hd.2 (Nat.le_trans (Nat.mul_le_mul_right _ (show a * 10 + dvN c + 1 ≤ (a + 1) * 10 by omega)) (by rw [Nat.mul_assoc, ← Nat.pow_succ']; exact ha))
    refine ⟨σ, while_le H _ ((tree _ _).trans ?_)⟩
    rw [lt_dec h, bM_t rfl, rd_body h (not_t h1.1) (by omega), h2, bM_f rfl, ih, List.length_cons, show n + 1 + ds.length = n + (ds.length + 1) by omega, show cnt + 1 + ds.length = cnt + (ds.length + 1) by omega]; rfl
noncomputable def f_read_digits : Fn := runF T28 9 3 n_read_digits
theorem read_digits_ok {t s ds : List Nat} {n d : Nat} {H : Hp} (hs : stopD s) (h : t.drop n = d :: ds ++ s) (hd : (d :: ds).all dig = true) (hz : (d :: ds).length ≤ 15) :
    f_read_digits [.str t, .int n, .int 10] H = some (.tup [.int (numV (d :: ds) 0), .int ((n + (d :: ds).length : Nat) : Int), .bool true], H) := by
  obtain ⟨σ, hl⟩ := rd_loop (H := H) hs (d :: ds) n FUEL 0 0 .undef .undef h (Nat.lt_of_le_of_lt hz (by decide)) hd (Nat.le_trans (Nat.mul_le_mul_left _ (Nat.pow_le_pow_right (by decide) hz)) (by decide))
  rw [Nat.zero_add] at hl
  exact runK_le H _ ((show _ = bnd (whileN (evalB T28 n_read_digits_L4c) (execSs T28 n_read_digits_L4b) FUEL [.str t, .int n, .int 10, .int ((0 : Nat) : Int), .int ((0 : Nat) : Int), .bool true, .bool false, .undef, .undef]) (endK T28 n_read_digits_T5) H by kernel_rfl).trans ((bnd_of hl).trans ((show _ = bM (decide (((d :: ds).length : Int) > 0)) (ret (V.tup [.int (numV (d :: ds) 0), .int ((n + (d :: ds).length : Nat) : Int), .bool true])) (ret (V.tup [.int (numV (d :: ds) 0), .int ((n + (d :: ds).length : Nat) : Int), .bool (decide (((d :: ds).length : Int) > 0))])) H by kernel_rfl).trans (by
    rw [bM_t (decide_eq_true (by rw [List.length_cons]; omega))]; rfl))))
noncomputable def T29 : Tab := extT T28 339 f_read_digits

def stopN : List Nat → Prop
  | [] => True
  | c :: _ => isNP c = false ∧ ([c] == [46]) = false ∧ noDig c = true ∧ noBase c = true
theorem stopN_d : ∀ {s : List Nat}, stopN s → stopD s
  | [], _ => trivial
  | _ :: _, h => h.2.2.1
theorem stopN_p : ∀ {s : List Nat}, stopN s → isNP (pk s) = false ∧ ([pk s] == [46]) = false ∧ noBase (pk s) = true
  | [], _ => ⟨rfl, rfl, rfl⟩
  | _ :: _, h => ⟨h.1, h.2.1, h.2.2.2⟩
theorem numV_lt : ∀ {ds : List Nat} {a : Nat}, ds.all dig = true → numV ds a < (a + 1) * 10 ^ ds.length
  | [], a, _ => by show a < (a + 1) * 1; omega
  | c :: ds, a, h => by
    rw [List.all_cons, Bool.and_eq_true] at h
    have h1 := h.1
    unfold dig at h1
    rw [Bool.and_eq_true, decide_eq_true_eq] at h1
    have := numV_lt (a := a * 10 + dvN c) h.2
    refine Nat.lt_of_lt_of_le this (Nat.le_trans (Nat.mul_le_mul_right _ (show a * 10 + dvN c + 1 ≤ (a + 1) * 10 by omega)) ?_)
    rw [Nat.mul_assoc, ← Nat.pow_succ']; exact Nat.le_refl _
theorem dig_base : ∀ {c : Nat}, dig c = true → noBase c = true := fun {c} h => by
  unfold dig at h
  rw [Bool.and_eq_true, decide_eq_true_eq] at h
  unfold noBase
  have ne : ∀ k, (dvN k : Int) > 9 → (!([c] == [k])) = true := fun k hk => by
    cases e : ([c] == [k]) with
    | false => rfl
    | true =>
      have : c = k := (List.cons.inj (eq_of_beq e)).1
      subst this; omega
  rw [ne 120 (by decide), ne 88 (by decide), ne 111 (by decide), ne 79 (by decide), ne 98 (by decide), ne 66 (by decide)]; rfl
noncomputable def f_read_number : Fn := runF T29 8 2 n_read_number
theorem read_number_ok {t s ds : List Nat} {n d : Nat} {H : Hp} (hs : stopN s) (h : t.drop n = d :: ds ++ s) (hd : (d :: ds).all dig = true) (hz : (d :: ds).length ≤ 15) (h0 : d = 48 → ds = []) :
    f_read_number [.str t, .int n] H = some (.tup [.int (numV (d :: ds) 0), .int ((n + (d :: ds).length : Nat) : Int), .bool true], H) := by
  have hb : noBase (pk (ds ++ s)) = true := by
    cases ds with
    | nil => exact (stopN_p hs).2.2
    | cons e ds =>
      rw [List.all_cons, List.all_cons, Bool.and_eq_true, Bool.and_eq_true] at hd
      exact dig_base hd.2.1
  have hn : t.drop (n + (d :: ds).length) = s := drop_add h
  obtain ⟨p1, p2, _⟩ := stopN_p hs
  have hv : numV (d :: ds) 0 ≤ 9007199254740991 := by
    have := Nat.lt_of_lt_of_le (numV_lt (a := 0) hd) (Nat.mul_le_mul_left _ (Nat.pow_le_pow_right (by decide) hz))
    omega
  let N := numV (d :: ds) 0
  let L := n + (d :: ds).length
  refine runK_le H _ ((show _ = bnd (f_base_at [.str t, .int n]) (fun v => execKs T29 (tlN n_read_number) [.str t, .int n, v, .undef, .undef, .undef, .undef, .undef] (fun z' => ret .none) (fun z' => failM) fun v z' => ret v) H by kernel_rfl).trans ((bnd_of (base_at_ok h hb)).trans ?_))
  refine (show _ = bnd (f_read_digits [.str t, .int n, .int 10]) (fun v => oB (bindT (.inl [4, 5, 6]) v [.str t, .int n, .int 10, .int n, .undef, .undef, .undef, .undef]) fun σ => execKs T29 (tlN (tlN (tlN (tlN n_read_number)))) σ (fun z' => ret .none) (fun z' => failM) fun v z' => ret v) H by kernel_rfl).trans ((bnd_of (read_digits_ok (stopN_d hs) h hd hz)).trans ?_)
  let X : Bool → M V := fun ok => execKs T29 (tlN (tlN (tlN (tlN (tlN n_read_number))))) [.str t, .int n, .int 10, .int n, .int N, .int L, .bool ok, .undef] (fun z' => ret .none) (fun z' => failM) fun v z' => ret v
  refine (show _ = bnd (idxV (.str t) (.int n)) (fun v => hB (cmpB .Eq v (.str [48])) fun r => bM r (bM (decide (((L : Nat) : Int) - (n : Int) > 1)) (X false) (X true)) (X true)) H by kernel_rfl).trans ?_
  rw [idx_str h]
  refine (show _ = bM ([d] == [48]) (bM (decide (((L : Nat) : Int) - (n : Int) > 1)) (X false) (X true)) (X true) H by kernel_rfl).trans ?_
  have e : bM ([d] == [48]) (bM (decide (((L : Nat) : Int) - (n : Int) > 1)) (X false) (X true)) (X true) = X true := by
    cases e : ([d] == [48]) with
    | false => rfl
    | true =>
      have hds := h0 (List.cons.inj (eq_of_beq e)).1
      rw [show decide (((L : Nat) : Int) - (n : Int) > 1) = false from decide_eq_false (by show ¬ (((n + (d :: ds).length : Nat) : Int) - n > 1); rw [hds]; simp only [List.length_cons, List.length_nil]; omega)]; rfl
  rw [e]
  refine (show _ = bM (decide ((N : Int) > 9007199254740991)) (execKs T29 n_read_number_B4 [.str t, .int n, .int 10, .int n, .int N, .int L, .bool true, .undef] (fun σ => execKs T29 (tlN (tlN (tlN (tlN (tlN (tlN n_read_number)))))) σ (fun z' => ret .none) (fun z' => failM) fun v z' => ret v) (fun z' => failM) fun v z' => ret v)
    (bnd (f_num_tail [.str t, .int L]) fun v => execKs T29 (tlN (tlN (tlN (tlN (tlN (tlN (tlN n_read_number))))))) [.str t, .int n, .int 10, .int n, .int N, .int L, .bool true, v] (fun z' => ret .none) (fun z' => failM) fun v z' => ret v) H by kernel_rfl).trans ?_
  rw [show decide ((N : Int) > 9007199254740991) = false from decide_eq_false (by show ¬ ((numV (d :: ds) 0 : Int) > _); omega), bM_f rfl]
  refine (bnd_of (num_tail_ok (n := L) (by rw [hn]; exact p1) (by rw [hn]; exact p2))).trans ?_
  refine (show _ = bM (decide ((L : Int) > (L : Int))) (execKs T29 (.cons (.asg 6 (.lit (.bool .false))) .nil) [.str t, .int n, .int 10, .int n, .int N, .int L, .bool true, .int L] (fun σ => execKs T29 (tlN (tlN (tlN (tlN (tlN (tlN (tlN (tlN n_read_number)))))))) σ (fun z' => ret .none) (fun z' => failM) fun v z' => ret v) (fun z' => failM) fun v z' => ret v)
    (ret (.tup [.int N, .int L, .bool true])) H by kernel_rfl).trans ?_
  rw [show decide ((L : Int) > (L : Int)) = false from decide_eq_false (Int.lt_irrefl _)]; rfl
noncomputable def T30 : Tab := extT T29 353 f_read_number

noncomputable def f_read_sign : Fn := runF T30 3 2 n_read_sign
def signOk (c : Nat) : Prop := c = 91 ∨ c = 93 ∨ c = 44 ∨ c = 123 ∨ c = 125
theorem sign_ok {t s : List Nat} {n c : Nat} {H : Hp} (h : t.drop n = c :: s) (hc : signOk c) : f_read_sign [.str t, .int n] H = some (.str [c], H) := by
  have e : ∀ k, slcV (.str t) (.int n) (.int ((n + (k + 1) : Nat) : Int)) = ret (.str (c :: s.take k)) := fun k => by
    rw [slc_str, h, Nat.add_sub_cancel_left]; rfl
  refine runK_le H _ ((show _ = bnd (slcV (.str t) (.int n) (.int ((n + (2 + 1) : Nat) : Int))) (fun v => execKs T30 (tlN n_read_sign) [.str t, .int n, v] (fun z' => ret .none) (fun z' => failM) fun v z' => ret v) H by kernel_rfl).trans ?_)
  rw [e]
  have two : ∀ X : V → M V, (bnd (slcV (.str t) (.int n) (.int ((n + (1 + 1) : Nat) : Int))) X) = X (.str (c :: s.take 1)) := fun X => by rw [e]; rfl
  have one : ∀ X : V → M V, (bnd (slcV (.str t) (.int n) (.int ((n + (0 + 1) : Nat) : Int))) X) = X (.str [c]) := fun X => by rw [e]; rfl
  have A : (bnd (ret (V.str (c :: s.take 2))) (fun v => execKs T30 (tlN n_read_sign) [.str t, .int n, v] (fun z' => ret .none) (fun z' => failM) fun v z' => ret v)) H =
      (bnd (slcV (.str t) (.int n) (.int ((n + (1 + 1) : Nat) : Int))) fun v => execKs T30 (tlN (tlN (tlN n_read_sign))) [.str t, .int n, v] (fun z' => ret .none) (fun z' => failM) fun v z' => ret v) H := by
    rcases hc with rfl | rfl | rfl | rfl | rfl <;> kernel_rfl
  rw [A, two]
  have Bq : (execKs T30 (tlN (tlN (tlN n_read_sign))) [.str t, .int n, .str (c :: s.take 1)] (fun z' => ret .none) (fun z' => failM) fun v z' => ret v) H =
      (bnd (slcV (.str t) (.int n) (.int ((n + (0 + 1) : Nat) : Int))) fun v => execKs T30 (tlN (tlN (tlN (tlN (tlN (tlN n_read_sign)))))) [.str t, .int n, v] (fun z' => ret .none) (fun z' => failM) fun v z' => ret v) H := by
    rcases hc with rfl | rfl | rfl | rfl | rfl <;> kernel_rfl
  rw [Bq, one]
  rcases hc with rfl | rfl | rfl | rfl | rfl <;> kernel_rfl
noncomputable def T31 : Tab := extT T30 416 f_read_sign
end

section

noncomputable abbrev tok (k : Nat) (w : List Nat) (v n e : Nat) (l : Bool) : V := .obj 237 [.int k, .str w, .int v, .int n, .int e, .bool l]
noncomputable abbrev dgs (r : Nat) : V := .obj 210 [.ref r, .str []]
noncomputable abbrev told (n at' : Nat) (a : List V) : V := .obj 176 [.int n, .int at', .tup a, .str []]
noncomputable def f_Token : Fn := ctorF T31 true false 237 7 7 n_Token
noncomputable def T32 : Tab := extT T31 237 f_Token
noncomputable def f_Diag : Fn := ctorF T32 true false 176 5 5 n_Diag
noncomputable def T33 : Tab := extT T32 176 f_Diag
noncomputable def f_Diags : Fn := ctorF T33 true true 210 2 2 n_Diags
noncomputable def T34 : Tab := extT T33 210 f_Diags

section
variable {H : Hp} {α : Type}
theorem append_K2 {o : Nat} {acc : List V} {v : V} {d : V → M α} {T : Tab} (h : H[o]? = some (.list acc)) (hz : acc.length < SZ) : bnd (bmeth (.ref o) 0 [v]) d H = d .none (H.set o (.list (acc ++ [v]))) := bnd_of (append_ok h hz)
theorem ins_ref {o C : Nat} {vs : List V} (h : H[o]? = some (.inst C vs)) : ins (.ref o) H = some (o, C, vs) := by
  show (H[o]?.bind instO).map _ = _; rw [h]; rfl
theorem attr_ins {o C f : Nat} {vs : List V} {v : V} (h : H[o]? = some (.inst C vs)) (hj : (fldIx C f).bind (fun j => vs[j]?) = some v) : attrV (.ref o) f H = some (v, H) := by
  show hB (ins (.ref o)) (fun p => oB ((fldIx p.2.1 f).bind fun j => p.2.2[j]?) ret) H = _
  rw [hB_of (ins_ref h)]
  show oB ((fldIx C f).bind fun j => vs[j]?) ret H = _
  rw [hj]; rfl
theorem setAttr_ok {o C f j : Nat} {vs : List V} {v : V} (h : H[o]? = some (.inst C vs)) (hj : fldIx C f = some j) (hl : j < vs.length) : setAttrV (.ref o) f v H = some ((), H.set o (.inst C (vs.set j v))) := by
  show hB (ins (.ref o)) (fun p => oB (fldIx p.2.1 f) fun j => gd (j < p.2.2.length) fun H => some ((), H.set p.1 (.inst p.2.1 (p.2.2.set j v)))) H = _
  rw [hB_of (ins_ref h)]
  show oB (fldIx C f) (fun j => gd (j < vs.length) fun H => some ((), H.set o (.inst C (vs.set j v)))) H = _
  rw [hj]
  exact (gd_H (c := fun H => some ((), H.set o (.inst C (vs.set j v)))) hl :)
end

noncomputable def f_put : Fn := runF T34 4 4 n_Diags_put
theorem put_ok {r n m : Nat} {a : List V} {rows : List V} {H : Hp} (h : H[r]? = some (.list rows)) (hz : rows.length < SZ) : f_put [dgs r, .int n, .int m, .tup a] H = some (.none, H.set r (.list (rows ++ [told n m a]))) :=
  runK_le H _ ((show _ = hB (recvK (.ref r) 0) (fun f => bnd (methV T34 f (.ref r) 0 [told n m a]) fun z' => ret V.none) H by kernel_rfl).trans (append_K h hz))
noncomputable def T35 : Tab := extT T34 202 f_put

noncomputable def f_name_token : Fn := runF T35 6 3 n_name_token
theorem name_token_ok {t s ws : List Nat} {n : Nat} {l : Bool} {H : Hp} (hs : isNP (pk s) = false) (h : t.drop n = ws ++ s) (hw : ws.all isNP = true) (hz : ws.length < FUEL) :
    f_name_token [.str t, .int n, .bool l] H = some (tok (bif isRes ws then 2 else 1) ws 0 n (n + ws.length) l, H) := by
  refine runK_le H _ ((show _ = bnd (f_read_name [.str t, .int n]) (fun v => execKs T35 (tlN n_name_token) [.str t, .int n, .bool l, v, .undef, .undef] (fun z' => ret .none) (fun z' => failM) fun v z' => ret v) H by kernel_rfl).trans ((bnd_of (read_name_ok hs h hw hz)).trans ?_))
  refine (show _ = bnd (slcV (.str t) (.int n) (.int ((n + ws.length : Nat) : Int))) (fun v => execKs T35 (tlN (tlN n_name_token)) [.str t, .int n, .bool l, .int ((n + ws.length : Nat) : Int), v, .undef] (fun z' => ret .none) (fun z' => failM) fun v z' => ret v) H by kernel_rfl).trans ?_
  rw [slc_str, Nat.add_sub_cancel_left, h, List.take_left' rfl]
  refine (show _ = bM (isRes ws) (ret (tok 2 ws 0 n (n + ws.length) l)) (ret (tok 1 ws 0 n (n + ws.length) l)) H by kernel_rfl).trans ?_
  cases isRes ws <;> rfl
noncomputable def T36 : Tab := extT T35 430 f_name_token

noncomputable def f_number_token : Fn := runF T36 7 4 n_number_token
theorem number_token_ok {t s ds : List Nat} {n d : Nat} {g : V} {l : Bool} {H : Hp} (hs : stopN s) (h : t.drop n = d :: ds ++ s) (hd : (d :: ds).all dig = true) (hz : (d :: ds).length ≤ 15) (h0 : d = 48 → ds = []) (hx : decText (numV (d :: ds) 0) = d :: ds) (hg : defO g = some g) :
    f_number_token [.str t, g, .int n, .bool l] H = some (tok 3 (d :: ds) (numV (d :: ds) 0) n (n + (d :: ds).length) l, H) := by
  have z : SZ = 100000 := rfl
  have hv : numV (d :: ds) 0 ≤ 4000000000000000000 := by
    have := Nat.lt_of_lt_of_le (numV_lt (a := 0) hd) (Nat.mul_le_mul_left _ (Nat.pow_le_pow_right (by decide) hz))
    omega
  let N := numV (d :: ds) 0
  let L := n + (d :: ds).length
  refine runK_le H _ ((show _ = bnd (f_read_number [.str t, .int n]) (fun v => oB (bindT (.inl [4, 5, 6]) v [.str t, g, .int n, .bool l, .undef, .undef, .undef]) fun σ => execKs T36 (tlN n_number_token) σ (fun z' => ret .none) (fun z' => failM) fun v z' => ret v) H by kernel_rfl).trans ((bnd_of (read_number_ok hs h hd hz h0)).trans ?_))
  refine (show _ = bnd (biV .str [.int N]) (fun v => bnd (f_Token [.int 3, v, .int N, .int n, .int L, .bool l]) fun v => ret v) H by kernel_rfl).trans ?_
  have e : biV .str [.int N] H = some (.str (d :: ds), H) := by
    have k : 0 ≤ (N : Int) ∧ smallI (N : Int) = true ∧ (decText (N : Int)).length ≤ SZ := ⟨Int.natCast_nonneg _, small_le hv, by show (decText (numV (d :: ds) 0)).length ≤ SZ; rw [hx, z]; omega⟩
    refine (gd_H (c := ret (V.str (decText N))) k :).trans ?_
    show some (V.str (decText (numV (d :: ds) 0)), H) = _; rw [hx]
  exact (bnd_of e).trans (by kernel_rfl)
noncomputable def T37 : Tab := extT T36 444 f_number_token

noncomputable def tellIf (b : Bool) (at' : Nat) : List V := bif b then [told 1127 at' [.str [92]]] else []
theorem set_nil {H : Hp} {r : Nat} {rows : List V} (h : H[r]? = some (.list rows)) : H.set r (.list (rows ++ [])) = H := by rw [List.append_nil]; exact set_same h

noncomputable def f_string_token : Fn := runF T37 7 4 n_string_token
theorem string_token_ok {t : List Nat} {n q r : Nat} {l : Bool} {rows : List V} {rest body : List Nat} {cks : List (List Nat)} {b : Bool} {H : Hp} (hq : isLE q = false) (hq2 : ([92] == [q]) = false) (ht : t.length + 2 ≤ SZ) (hr : Run (okS q) (q :: rest) body cks b) (h : t.drop n = q :: (body ++ q :: rest)) (hf : cks.flatten.length ≤ SZ)
    (hg : H[r]? = some (.list rows)) (hz : rows.length < SZ) :
    f_string_token [.str t, dgs r, .int n, .bool l] H = some (tok 4 cks.flatten 0 n (n + body.length + 2) l, H.set r (.list (rows ++ tellIf b n))) := by
  let L := n + body.length + 2
  refine runK_le H _ ((show _ = bnd (f_scan_string [.str t, .int n]) (fun v => oB (bindT (.inl [4, 5, 6]) v [.str t, dgs r, .int n, .bool l, .undef, .undef, .undef]) fun σ => execKs T37 (tlN n_string_token) σ (fun z' => ret .none) (fun z' => failM) fun v z' => ret v) H by kernel_rfl).trans ((bnd_of (scan_string_ok hq hq2 ht hr h hf)).trans ?_))
  cases b with
  | false =>
    rw [show tellIf false n = [] from rfl, set_nil hg]
    kernel_rfl
  | true =>
    refine (show _ = bnd (f_put [dgs r, .int ((1127 : Nat) : Int), .int n, .tup [.str [92]]]) (fun z' => ret (tok 4 cks.flatten 0 n L l)) H by kernel_rfl).trans ((bnd_of (put_ok hg hz)).trans rfl)
noncomputable def T38 : Tab := extT T37 451 f_string_token

noncomputable def f_template_token : Fn := runF T38 11 6 n_template_token
theorem template_token_ok {t : List Nat} {n q r w cl : Nat} {l : Bool} {hole last : Nat} {rows : List V} {rest body : List Nat} {cks : List (List Nat)} {b : Bool} {H : Hp} (he : TplEnd rest w cl) (ht : t.length + 2 ≤ SZ) (hr : Run okT rest body cks b) (h : t.drop n = q :: (body ++ rest)) (hf : cks.flatten.length ≤ SZ)
    (hg : H[r]? = some (.list rows)) (hz : rows.length < SZ) :
    f_template_token [.str t, dgs r, .int n, .bool l, .int hole, .int last] H = some (tok (bif cl == 0 then hole else last) cks.flatten 0 n (n + 1 + body.length + w) l, H.set r (.list (rows ++ tellIf b n))) := by
  let L := n + 1 + body.length + w
  refine runK_le H _ ((show _ = bnd (f_scan_template [.str t, .int n]) (fun v => oB (bindT (.inl [6, 7, 8, 9]) v [.str t, dgs r, .int n, .bool l, .int hole, .int last, .undef, .undef, .undef, .undef, .undef]) fun σ => execKs T38 (tlN n_template_token) σ (fun z' => ret .none) (fun z' => failM) fun v z' => ret v) H by kernel_rfl).trans ((bnd_of (scan_template_ok he ht hr h hf)).trans ?_))
  have go : ∀ c : Nat, (c = 0 ∨ c = 1) → (fun v => oB (bindT (.inl [6, 7, 8, 9]) v [.str t, dgs r, .int n, .bool l, .int hole, .int last, .undef, .undef, .undef, .undef, .undef]) fun σ => execKs T38 (tlN n_template_token) σ (fun z' => ret V.none) (fun z' => failM) fun v z' => ret v) (.tup [.str cks.flatten, .int L, .int c, .bool b]) H =
      some (tok (bif c == 0 then hole else last) cks.flatten 0 n L l, H.set r (.list (rows ++ tellIf b n))) := fun c hc => by
    cases b with
    | false =>
      rw [show tellIf false n = [] from rfl, set_nil hg]
      rcases hc with rfl | rfl <;> kernel_rfl
    | true =>
      rcases hc with rfl | rfl
      · exact (show _ = bnd (f_put [dgs r, .int ((1127 : Nat) : Int), .int n, .tup [.str [92]]]) (fun z' => ret (tok hole cks.flatten 0 n L l)) H by kernel_rfl).trans ((bnd_of (put_ok hg hz)).trans rfl)
      · exact (show _ = bnd (f_put [dgs r, .int ((1127 : Nat) : Int), .int n, .tup [.str [92]]]) (fun z' => ret (tok last cks.flatten 0 n L l)) H by kernel_rfl).trans ((bnd_of (put_ok hg hz)).trans rfl)
  exact go cl (he.elim (fun ⟨_, _, _, h⟩ => .inr h) fun ⟨_, _, _, h⟩ => .inl h)
noncomputable def T39 : Tab := extT T38 458 f_template_token
end

section

inductive Lex : List Nat → Nat → Nat → List Nat → Nat → Bool → Prop
  | name {c : Nat} {ws s : List Nat} : isNS c = true → (c :: ws).all isNP = true → isNP (pk s) = false → Lex (c :: (ws ++ s)) (c :: ws).length (bif isRes (c :: ws) then 2 else 1) (c :: ws) 0 false
  | num {d : Nat} {ds s : List Nat} : isNS d = false → isDig d = true → stopN s → (d :: ds).all dig = true → (d :: ds).length ≤ 15 → (d = 48 → ds = []) → decText (numV (d :: ds) 0) = d :: ds → Lex (d :: (ds ++ s)) (d :: ds).length 3 (d :: ds) (numV (d :: ds) 0) false
  | str {q : Nat} {rest body : List Nat} {cks : List (List Nat)} {b : Bool} : (q = 34 ∨ q = 39) → Run (okS q) (q :: rest) body cks b → Lex (q :: (body ++ q :: rest)) (body.length + 2) 4 cks.flatten 0 b
  | tpl {rest body : List Nat} {cks : List (List Nat)} {b : Bool} {w cl : Nat} : TplEnd rest w cl → Run okT rest body cks b → Lex (96 :: (body ++ rest)) (1 + body.length + w) (bif cl == 0 then 7 else 6) cks.flatten 0 b
  | sign {c : Nat} {s : List Nat} : signOk c → Lex (c :: s) 1 5 [c] 0 false

noncomputable def f_read_token : Fn := runF T39 6 4 n_read_token
theorem rt_tree {t s : List Nat} {n c r : Nat} {l : Bool} {H : Hp} (h : t.drop n = c :: s) : runK T39 6 4 n_read_token [.str t, dgs r, .int n, .bool l] H =
    bM (isNS c) (bnd (f_name_token [.str t, .int n, .bool l]) ret) (bM (isDig c) (bnd (f_number_token [.str t, dgs r, .int n, .bool l]) ret) (bM ([c] == [39]) (bnd (f_string_token [.str t, dgs r, .int n, .bool l]) ret) (bM ([c] == [34]) (bnd (f_string_token [.str t, dgs r, .int n, .bool l]) ret)
      (bM ([c] == [96]) (bnd (f_template_token [.str t, dgs r, .int n, .bool l, .int ((7 : Nat) : Int), .int ((6 : Nat) : Int)]) ret) (execKs T39 (tlN (tlN (tlN (tlN (tlN n_read_token))))) [.str t, dgs r, .int n, .bool l, .str [c], .undef] (fun z' => ret .none) (fun z' => failM) fun v z' => ret v))))) H := by
  refine (show _ = bnd (idxV (.str t) (.int n)) (fun v => execKs T39 (tlN n_read_token) [.str t, dgs r, .int n, .bool l, v, .undef] (fun z' => ret .none) (fun z' => failM) fun v z' => ret v) H by kernel_rfl).trans ?_
  rw [idx_str h]
  kernel_rfl
theorem read_token_ok {t s x : List Nat} {n w k v r : Nat} {b l : Bool} {rows : List V} {H : Hp} (hx : Lex s w k x v b) (h : t.drop n = s) (ht : t.length + 2 ≤ SZ) (hz : x.length ≤ SZ) (hg : H[r]? = some (.list rows)) (hr : rows.length < SZ) :
    f_read_token [.str t, dgs r, .int n, .bool l] H = some (tok k x v n (n + w) l, H.set r (.list (rows ++ tellIf b n))) := by
  have fin : ∀ {c : M V} {p : V × Hp}, c H = some p → bnd c ret H = some p := fun h => by rw [bnd_ret]; exact h
  have same : ∀ {c : M V} {v : V}, c H = some (v, H) → c H = some (v, H.set r (.list (rows ++ tellIf false n))) := fun h => by rw [show tellIf false n = [] from rfl, set_nil hg]; exact h
  refine runK_le H _ ?_
  cases hx with
  | @name c ws s h1 h2 h3 =>
    rw [rt_tree h, h1]
    exact fin (same (name_token_ok (ws := c :: ws) h3 h h2 (Nat.lt_of_le_of_lt hz (by decide))))
  | @num d ds s h0 h1 h2 h3 h4 h5 h6 =>
    rw [rt_tree h, h0, h1]
    exact fin (same (number_token_ok h2 h h3 h4 h5 h6 rfl))
  | @str q rest body cks b hq hr' =>
    rw [rt_tree h]
    rcases hq with rfl | rfl
    · exact fin (string_token_ok rfl rfl ht hr' h hz hg hr)
    · exact fin (string_token_ok rfl rfl ht hr' h hz hg hr)
  | @tpl rest body cks b w cl he hr' =>
    rw [rt_tree h]
    have := template_token_ok (hole := 7) (last := 6) (l := l) he ht hr' h hz hg hr
    rw [show n + 1 + body.length + w = n + (1 + body.length + w) by omega] at this
    exact fin this
  | @sign c s hc =>
    rw [rt_tree h]
    refine same ?_
    have A : ∀ X : V → M V, (bnd (f_read_sign [.str t, .int n]) X) H = X (.str [c]) H := fun X => bnd_of (sign_ok h hc)
    have go : ∀ c, signOk c → (bM (isNS c) (bnd (f_name_token [.str t, .int n, .bool l]) ret) (bM (isDig c) (bnd (f_number_token [.str t, dgs r, .int n, .bool l]) ret) (bM ([c] == [39]) (bnd (f_string_token [.str t, dgs r, .int n, .bool l]) ret) (bM ([c] == [34]) (bnd (f_string_token [.str t, dgs r, .int n, .bool l]) ret)
      (bM ([c] == [96]) (bnd (f_template_token [.str t, dgs r, .int n, .bool l, .int ((7 : Nat) : Int), .int ((6 : Nat) : Int)]) ret) (execKs T39 (tlN (tlN (tlN (tlN (tlN n_read_token))))) [.str t, dgs r, .int n, .bool l, .str [c], .undef] (fun z' => ret .none) (fun z' => failM) fun v z' => ret v)))))) H =
        bnd (f_read_sign [.str t, .int n]) (fun v => execKs T39 (tlN (tlN (tlN (tlN (tlN (tlN (tlN n_read_token))))))) [.str t, dgs r, .int n, .bool l, .str [c], v] (fun z' => ret .none) (fun z' => failM) fun v z' => ret v) H := fun c hc => by
      rcases hc with rfl | rfl | rfl | rfl | rfl <;> kernel_rfl
    rw [go c hc, A]
    rcases hc with rfl | rfl | rfl | rfl | rfl <;> kernel_rfl
noncomputable def T40 : Tab := extT T39 465 f_read_token

noncomputable def f_is_brace : Fn := runF T40 2 2 n_is_brace
theorem is_brace_ok {k v n e : Nat} {x y : List Nat} {l : Bool} {H : Hp} : f_is_brace [tok k x v n e l, .str y] H = some (.bool (((k : Int) == 5) && (x == y)), H) :=
  runK_le H _ ((show _ = bM ((k : Int) == 5) (rB (x == y)) (rB ((k : Int) == 5)) H by kernel_rfl).trans (by rw [and_ret]; rfl))
noncomputable def T41 : Tab := extT T40 472 f_is_brace

noncomputable abbrev scn (t : List Nat) (n r : Nat) (la : V) : O := .inst 503 [.str t, .int n, dgs r, la]
noncomputable def f_take : Fn := runF T41 6 1 n_Scanner_take
section
variable {t s bs : List Nat} {n m sc r : Nat} {la : V} {H : Hp}
theorem take_turn {k : Nat} {w3 w4 w5 : V} (hs : H[sc]? = some (scn t n r la)) (hp : stopB s) (h : t.drop n = bs ++ s) (hb : bs.all isB = true) (hz : bs.length < FUEL) {K B : List V → Ms} {R : V → List V → Ms} :
    execKs T41 n_Scanner_take_L6b [.ref sc, .bool false, .none, w3, w4, w5] K B R H =
      bM (decide (((n + bs.length : Nat) : Int) ≥ (t.length : Int))) (execKs T41 (.cons (.asg 2 n_Scanner_take_E3) .nil) [.ref sc, .bool (bs.any isLE), .none, .int ((n + bs.length : Nat) : Int), .bool (bs.any isLE), .bool true] (fun σ => execKs T41 (tlN (tlN (tlN (tlN (tlN n_Scanner_take_L6b))))) σ K B R) B R)
        (execKs T41 (.cons (.asg 2 n_Scanner_take_E4) .nil) [.ref sc, .bool (bs.any isLE), .none, .int ((n + bs.length : Nat) : Int), .bool (bs.any isLE), .bool true] (fun σ => execKs T41 (tlN (tlN (tlN (tlN (tlN n_Scanner_take_L6b))))) σ K B R) B R) (H.set sc (scn t (n + bs.length) r la)) := by
  refine (show _ = bnd (attrV (.ref sc) 1) (fun v1 => bnd (attrV (.ref sc) 3) fun v2 => bnd (f_skip_blank [v1, v2]) fun v => oB (bindT (.inl [3, 4, 5]) v [.ref sc, .bool false, .none, w3, w4, w5]) fun σ => execKs T41 (tlN n_Scanner_take_L6b) σ K B R) H by kernel_rfl).trans ?_
  refine (bnd_of (attr_ins hs rfl)).trans ((bnd_of (attr_ins hs rfl)).trans ((bnd_of (skip_ok hp h hb hz)).trans ?_))
  refine (show _ = bnd (setAttrV (.ref sc) 3 (.int ((n + bs.length : Nat) : Int))) (fun z' => execKs T41 (tlN (tlN (tlN n_Scanner_take_L6b))) [.ref sc, .bool (bs.any isLE), .none, .int ((n + bs.length : Nat) : Int), .bool (bs.any isLE), .bool true] K B R) H by kernel_rfl).trans ((bnd_of (setAttr_ok (j := 1) hs rfl (show 1 < 4 by decide))).trans ?_)
  refine (show _ = bnd (attrV (.ref sc) 1) (fun v => bnd (biV .len [v]) fun v => hB (cmpB .GtE (.int ((n + bs.length : Nat) : Int)) v) fun r => bM r (execKs T41 (.cons (.asg 2 n_Scanner_take_E3) .nil) [.ref sc, .bool (bs.any isLE), .none, .int ((n + bs.length : Nat) : Int), .bool (bs.any isLE), .bool true] (fun σ => execKs T41 (tlN (tlN (tlN (tlN (tlN n_Scanner_take_L6b))))) σ K B R) B R)
        (execKs T41 (.cons (.asg 2 n_Scanner_take_E4) .nil) [.ref sc, .bool (bs.any isLE), .none, .int ((n + bs.length : Nat) : Int), .bool (bs.any isLE), .bool true] (fun σ => execKs T41 (tlN (tlN (tlN (tlN (tlN n_Scanner_take_L6b))))) σ K B R) B R)) (H.set sc (scn t (n + bs.length) r la)) by kernel_rfl).trans ((bnd_of (attr_ins (set_get hs) rfl)).trans rfl)
theorem take_fin {T1 : V} {k0 x0 v0 n0 e : Nat} {x1 : List Nat} {l l0 : Bool} {w3 w4 w5 : V} (hs : H[sc]? = some (scn t m r la)) :
    endK T41 n_Scanner_take_T7 (.next, [.ref sc, .bool l, tok k0 x1 v0 n0 e l0, w3, w4, w5]) H = some (tok k0 x1 v0 n0 e l0, H.set sc (scn t e r (tok k0 x1 v0 n0 e l0))) := by
  refine (show _ = bnd (setAttrV (.ref sc) 3 (.int e)) (fun z' => bnd (setAttrV (.ref sc) 11 (tok k0 x1 v0 n0 e l0)) fun z' => ret (tok k0 x1 v0 n0 e l0)) H by kernel_rfl).trans ((bnd_of (setAttr_ok (j := 1) hs rfl (show 1 < 4 by decide))).trans ((bnd_of (setAttr_ok (C := 503) (vs := [.str t, .int e, dgs r, la]) (j := 3) (set_get hs) rfl (show 3 < 4 by decide))).trans ?_))
  rw [List.set_set]; rfl
theorem take_while {k : Nat} {tv : V} {l : Bool} {w3 w4 w5 : V} (ht : ∀ H : Hp, cmpB .Is tv .none H = some false) (hd : defO tv = some tv) : whileN (evalB T41 n_Scanner_take_L6c) (execSs T41 n_Scanner_take_L6b) (k + 1) [.ref sc, .bool l, tv, w3, w4, w5] H = some ((.next, [.ref sc, .bool l, tv, w3, w4, w5]), H) := by
  refine while_le H _ ((show _ = oB (defO tv) (fun v => hB (cmpB .Is v .none) fun r => bM r (execKs T41 n_Scanner_take_L6b [.ref sc, .bool l, tv, w3, w4, w5] (whileN (evalB T41 n_Scanner_take_L6c) (execSs T41 n_Scanner_take_L6b) k) (fun σ => ret (.next, σ)) fun v σ => ret (.rtn v, σ)) (ret (.next, [.ref sc, .bool l, tv, w3, w4, w5]))) H by kernel_rfl).trans ?_)
  rw [hd]
  exact (hB_of (ht H)).trans rfl
theorem take_end (hs : H[sc]? = some (scn t n r la)) (h : t.drop n = bs) (hb : bs.all isB = true) (hz : bs.length < FUEL) :
    f_take [.ref sc] H = some (tok 0 [] 0 (n + bs.length) (n + bs.length) (bs.any isLE), H.set sc (scn t (n + bs.length) r (tok 0 [] 0 (n + bs.length) (n + bs.length) (bs.any isLE)))) := by
  have hd : t.drop (n + bs.length) = [] := drop_add (s := []) (by rw [List.append_nil]; exact h)
  have hm : decide (((n + bs.length : Nat) : Int) ≥ (t.length : Int)) = true := decide_eq_true (Int.ofNat_le.mpr (drop_end hd))
  have hl : whileN (evalB T41 n_Scanner_take_L6c) (execSs T41 n_Scanner_take_L6b) FUEL [.ref sc, .bool false, .none, .undef, .undef, .undef] H = some ((.next, [.ref sc, .bool (bs.any isLE), tok 0 [] 0 (n + bs.length) (n + bs.length) (bs.any isLE), .int ((n + bs.length : Nat) : Int), .bool (bs.any isLE), .bool true]), H.set sc (scn t (n + bs.length) r la)) := by
    refine while_le (n := 999999) H _ ((show _ = execKs T41 n_Scanner_take_L6b [.ref sc, .bool false, .none, .undef, .undef, .undef] (whileN (evalB T41 n_Scanner_take_L6c) (execSs T41 n_Scanner_take_L6b) 999999) (fun σ => ret (.next, σ)) (fun v σ => ret (.rtn v, σ)) H by kernel_rfl).trans ((take_turn (k := 0) (s := []) hs trivial (by rw [List.append_nil]; exact h) hb hz).trans ?_))
    rw [hm]
    exact (show _ = whileN (evalB T41 n_Scanner_take_L6c) (execSs T41 n_Scanner_take_L6b) 999999 [.ref sc, .bool (bs.any isLE), tok 0 [] 0 (n + bs.length) (n + bs.length) (bs.any isLE), .int ((n + bs.length : Nat) : Int), .bool (bs.any isLE), .bool true] (H.set sc (scn t (n + bs.length) r la)) by kernel_rfl).trans (take_while (k := 999998) (fun z' => rfl) rfl)
  refine runK_le H _ ((show _ = bnd (whileN (evalB T41 n_Scanner_take_L6c) (execSs T41 n_Scanner_take_L6b) FUEL [.ref sc, .bool false, .none, .undef, .undef, .undef]) (endK T41 n_Scanner_take_T7) H by kernel_rfl).trans ((bnd_of hl).trans ((take_fin (T1 := .none) (x0 := 0) (set_get hs)).trans ?_)))
  rw [List.set_set]
theorem take_tok {w k v : Nat} {x : List Nat} {b : Bool} {rows : List V} (hx : Lex s w k x v b) (hs : H[sc]? = some (scn t n r la)) (hp : stopB s) (hn : s ≠ []) (h : t.drop n = bs ++ s) (hb : bs.all isB = true) (ht : t.length + 2 ≤ SZ) (hz : x.length ≤ SZ) (hg : H[r]? = some (.list rows)) (hr : rows.length < SZ) (hne : sc ≠ r) :
    f_take [.ref sc] H = some (tok k x v (n + bs.length) (n + bs.length + w) (bs.any isLE), (H.set r (.list (rows ++ tellIf b (n + bs.length)))).set sc (scn t (n + bs.length + w) r (tok k x v (n + bs.length) (n + bs.length + w) (bs.any isLE)))) := by
  have hd : t.drop (n + bs.length) = s := drop_add h
  obtain ⟨c, s', rfl⟩ : ∃ c s', s = c :: s' := by
    cases s with
    | nil => exact absurd rfl hn
    | cons c s' => exact ⟨c, s', rfl⟩
  have hm : decide (((n + bs.length : Nat) : Int) ≥ (t.length : Int)) = false := decide_eq_false (by have := (drop_lt hd).1; omega)
  have hbz : bs.length < FUEL := Nat.lt_of_lt_of_le (show bs.length < SZ by have := (drop_lt hd).1; omega) (by decide)
  have hg' : (H.set sc (scn t (n + bs.length) r la))[r]? = some (.list rows) := by rw [List.getElem?_set_ne hne]; exact hg
  have hl : whileN (evalB T41 n_Scanner_take_L6c) (execSs T41 n_Scanner_take_L6b) FUEL [.ref sc, .bool false, .none, .undef, .undef, .undef] H = some ((.next, [.ref sc, .bool (bs.any isLE), tok k x v (n + bs.length) (n + bs.length + w) (bs.any isLE), .int ((n + bs.length : Nat) : Int), .bool (bs.any isLE), .bool true]), (H.set sc (scn t (n + bs.length) r la)).set r (.list (rows ++ tellIf b (n + bs.length)))) := by
    refine while_le (n := 999999) H _ ((show _ = execKs T41 n_Scanner_take_L6b [.ref sc, .bool false, .none, .undef, .undef, .undef] (whileN (evalB T41 n_Scanner_take_L6c) (execSs T41 n_Scanner_take_L6b) 999999) (fun σ => ret (.next, σ)) (fun v σ => ret (.rtn v, σ)) H by kernel_rfl).trans ((take_turn (k := 0) hs hp h hb hbz).trans ?_))
    rw [hm]
    refine (show _ = bnd (attrV (.ref sc) 1) (fun v1 => bnd (attrV (.ref sc) 10) fun v2 => bnd (f_read_token [v1, v2, .int ((n + bs.length : Nat) : Int), .bool (bs.any isLE)]) fun v => execKs T41 (tlN (tlN (tlN (tlN (tlN n_Scanner_take_L6b))))) [.ref sc, .bool (bs.any isLE), v, .int ((n + bs.length : Nat) : Int), .bool (bs.any isLE), .bool true] (whileN (evalB T41 n_Scanner_take_L6c) (execSs T41 n_Scanner_take_L6b) 999999) (fun σ => ret (.next, σ)) (fun v σ => ret (.rtn v, σ))) (H.set sc (scn t (n + bs.length) r la)) by kernel_rfl).trans ?_
    refine (bnd_of (attr_ins (set_get hs) rfl)).trans ((bnd_of (attr_ins (set_get hs) rfl)).trans ((bnd_of (read_token_ok hx hd ht hz hg' hr)).trans ?_))
    exact (show _ = whileN (evalB T41 n_Scanner_take_L6c) (execSs T41 n_Scanner_take_L6b) 999999 [.ref sc, .bool (bs.any isLE), tok k x v (n + bs.length) (n + bs.length + w) (bs.any isLE), .int ((n + bs.length : Nat) : Int), .bool (bs.any isLE), .bool true] ((H.set sc (scn t (n + bs.length) r la)).set r (.list (rows ++ tellIf b (n + bs.length)))) by kernel_rfl).trans (take_while (k := 999998) (fun z' => rfl) rfl)
  have hs2 : ((H.set sc (scn t (n + bs.length) r la)).set r (.list (rows ++ tellIf b (n + bs.length))))[sc]? = some (scn t (n + bs.length) r la) := by rw [List.getElem?_set_ne (Ne.symm hne)]; exact set_get hs
  refine runK_le H _ ((show _ = bnd (whileN (evalB T41 n_Scanner_take_L6c) (execSs T41 n_Scanner_take_L6b) FUEL [.ref sc, .bool false, .none, .undef, .undef, .undef]) (endK T41 n_Scanner_take_T7) H by kernel_rfl).trans ((bnd_of hl).trans ((take_fin (T1 := .none) (x0 := 0) hs2).trans ?_)))
  rw [List.set_comm _ _ hne, List.set_set]
noncomputable def T42 : Tab := extT T41 493 f_take

noncomputable def f_rescan : Fn := runF T42 3 1 n_Scanner_rescan
theorem rescan_ok {n0 e : Nat} {l : Bool} {rows : List V} {rest body : List Nat} {cks : List (List Nat)} {b : Bool} {w cl : Nat} (hs : H[sc]? = some (scn t m r (tok 5 [125] 0 n0 e l))) (he : TplEnd rest w cl) (ht : t.length + 2 ≤ SZ) (hr' : Run okT rest body cks b) (h : t.drop n0 = 125 :: (body ++ rest)) (hf : cks.flatten.length ≤ SZ) (hg : H[r]? = some (.list rows)) (hr : rows.length < SZ) (hne : sc ≠ r) :
    f_rescan [.ref sc] H = some (tok (bif cl == 0 then 8 else 9) cks.flatten 0 n0 (n0 + 1 + body.length + w) l, (H.set r (.list (rows ++ tellIf b n0))).set sc (scn t (n0 + 1 + body.length + w) r (tok (bif cl == 0 then 8 else 9) cks.flatten 0 n0 (n0 + 1 + body.length + w) l))) := by
  let br := tok 5 [125] 0 n0 e l
  have hs2 : (H.set r (.list (rows ++ tellIf b n0)))[sc]? = some (scn t m r br) := by rw [List.getElem?_set_ne (Ne.symm hne)]; exact hs
  refine runK_le H _ ((show _ = bnd (attrV (.ref sc) 11) (fun v => execKs T42 (tlN n_Scanner_rescan) [.ref sc, v, .undef] (fun z' => ret .none) (fun z' => failM) fun v z' => ret v) H by kernel_rfl).trans ((bnd_of (attr_ins hs rfl)).trans ?_))
  refine (show _ = bnd (f_is_brace [br, .str [125]]) (fun v => bnd (truthyM v) fun t => bM t (execKs T42 (tlN (tlN n_Scanner_rescan)) [.ref sc, br, .undef] (fun z' => ret .none) (fun z' => failM) fun v z' => ret v) failM) H by kernel_rfl).trans ((bnd_of is_brace_ok).trans ?_)
  refine (show _ = bnd (attrV (.ref sc) 1) (fun v1 => bnd (attrV (.ref sc) 10) fun v2 => bnd (f_template_token [v1, v2, .int n0, .bool l, .int ((8 : Nat) : Int), .int ((9 : Nat) : Int)]) fun v => execKs T42 (tlN (tlN (tlN n_Scanner_rescan))) [.ref sc, br, v] (fun z' => ret .none) (fun z' => failM) fun v z' => ret v) H by kernel_rfl).trans ((bnd_of (attr_ins hs rfl)).trans ((bnd_of (attr_ins hs rfl)).trans ((bnd_of (template_token_ok he ht hr' h hf hg hr)).trans ?_)))
  let tk := tok (bif cl == 0 then 8 else 9) cks.flatten 0 n0 (n0 + 1 + body.length + w) l
  refine (show _ = bnd (setAttrV (.ref sc) 3 (.int ((n0 + 1 + body.length + w : Nat) : Int))) (fun z' => bnd (setAttrV (.ref sc) 11 tk) fun z' => ret tk) (H.set r (.list (rows ++ tellIf b n0))) by kernel_rfl).trans ((bnd_of (setAttr_ok (j := 1) hs2 rfl (show 1 < 4 by decide))).trans ((bnd_of (setAttr_ok (C := 503) (vs := [.str t, .int ((n0 + 1 + body.length + w : Nat) : Int), dgs r, br]) (j := 3) (set_get hs2) rfl (show 3 < 4 by decide))).trans ?_))
  rw [List.set_set]; rfl
end
noncomputable def T43 : Tab := extT T42 500 f_rescan
end

section

section
variable {H : Hp} {o : Nat} {vs : List V} {v w : V} {α : Type}
theorem truthy_ref (ho : H[o]? = some (.list vs)) : truthyM (.ref o) H = some (!vs.isEmpty, H) := by
  show hB (truthy (.ref o)) ret H = _
  exact hB_of (show (H[o]?.bind listO).map (fun vs => !vs.isEmpty) = _ by rw [ho]; rfl)
theorem place_neg {n : Nat} : place (-1) (n + 1) = some n := by
  unfold place
  rw [if_neg (by decide), if_pos (by omega)]
  exact congrArg some (by omega)
theorem orM_none {c d : M α} (h : c H = none) : orM c d H = d H := by unfold orM; rw [h]
theorem idx_ref {i : Int} {j : Nat} (ho : H[o]? = some (.list vs)) (hp : place i vs.length = some j) (hj : vs[j]? = some v) : idxV (.ref o) (.int i) H = some (v, H) := by
  refine (orM_none rfl).trans ((orM_none rfl).trans (orM_of ((hB_of (lst_ref ho)).trans ?_)))
  show oB ((place i vs.length).bind fun j => vs[j]?) ret H = _
  rw [hp]
  show oB vs[j]? ret H = _
  rw [hj]; rfl
theorem idx_last (ho : H[o]? = some (.list (vs ++ [v]))) : idxV (.ref o) (.int (-1)) H = some (v, H) :=
  idx_ref ho (by rw [List.length_append]; exact place_neg) List.getElem?_concat_length
theorem setIdx_one (ho : H[o]? = some (.list [v])) : setIdxV (.ref o) (.int (-1)) w H = some ((), H.set o (.list [w])) :=
  (hB_of (lst_ref ho)).trans rfl
theorem pop_ok (ho : H[o]? = some (.list (vs ++ [v]))) : bmeth (.ref o) 2 [] H = some (v, H.set o (.list vs)) := by
  refine (hB_of (lst_ref ho)).trans ?_
  refine (show _ = oB (vs ++ [v]).getLast? (fun u => bnd (storeL o (vs ++ [v]).dropLast) fun z' => ret u) H by kernel_rfl).trans ?_
  rw [List.getLast?_concat, List.dropLast_concat]; rfl
theorem recv_ins {C m f : Nat} (ho : H[o]? = some (.inst C vs)) (hf : methIx C m = some f) : recvK (.ref o) m H = some (some f) := by
  show (H[o]?.bind _) = _
  rw [ho]
  show (methIx C m).map some = _
  rw [hf]; rfl
end
noncomputable def f_follow : Fn := runF T43 3 3 n_follow_hole
noncomputable abbrev retK (T : Tab) (b : N) (σ : List V) : M V := execKs T b σ (fun z' => ret .none) (fun z' => failM) (fun v z' => ret v)
section
variable {H : Hp} {x : List Nat} {k v n e o sc : Nat} {l : Bool} {hs : List V}
theorem brace_no {y : List Nat} (h : ((k : Int) == 5) = false) : f_is_brace [tok k x v n e l, .str y] H = some (.bool false, H) := by
  rw [is_brace_ok, h]; rfl
theorem fol_head (ho : H[o]? = some (.list hs)) (hz : hs.length < SZ) : runK T43 3 3 n_follow_hole [.ref sc, tok 7 x v n e l, .ref o] H = retK T43 (tlN n_follow_hole) [.ref sc, tok 7 x v n e l, .ref o] (H.set o (.list (hs ++ [.int ((0 : Nat) : Int)]))) := by
  refine (show _ = hB (recvK (.ref o) 0) (fun f => bnd (methV T43 f (.ref o) 0 [.int ((0 : Nat) : Int)]) fun z' => retK T43 (tlN n_follow_hole) [.ref sc, tok 7 x v n e l, .ref o]) H by kernel_rfl).trans ?_
  exact append_K ho hz
theorem fol_skip (h7 : ((k : Int) == 7) = false) : runK T43 3 3 n_follow_hole [.ref sc, tok k x v n e l, .ref o] H = retK T43 (tlN n_follow_hole) [.ref sc, tok k x v n e l, .ref o] H := by
  refine (show _ = bM ((k : Int) == 7) (execKs T43 n_follow_hole_B1 [.ref sc, tok k x v n e l, .ref o] (fun σ => retK T43 (tlN n_follow_hole) σ) (fun z' => failM) (fun v z' => ret v)) (retK T43 (tlN n_follow_hole) [.ref sc, tok k x v n e l, .ref o]) H by kernel_rfl).trans ?_
  rw [h7]; rfl
theorem fol_test (ho : H[o]? = some (.list hs)) : retK T43 (tlN n_follow_hole) [.ref sc, tok k x v n e l, .ref o] H = bM (!hs.isEmpty) (retK T43 (tlN (tlN n_follow_hole)) [.ref sc, tok k x v n e l, .ref o]) (ret (tok k x v n e l)) H := by
  refine (show _ = bnd (truthyM (.ref o)) (fun t => bM t (retK T43 (tlN (tlN n_follow_hole)) [.ref sc, tok k x v n e l, .ref o]) (ret (tok k x v n e l))) H by kernel_rfl).trans ?_
  exact bnd_of (truthy_ref ho)
theorem fol_other (h5 : ((k : Int) == 5) = false) : retK T43 (tlN (tlN n_follow_hole)) [.ref sc, tok k x v n e l, .ref o] H = some (tok k x v n e l, H) := by
  have A : ∀ {y : List Nat} {D : Bool → M V}, bnd (f_is_brace [tok k x v n e l, .str y]) (fun v => bnd (truthyM v) D) H = D false H := fun {y D} => (bnd_of (brace_no h5)).trans rfl
  refine (show _ = bnd (f_is_brace [tok k x v n e l, .str [123]]) (fun v1 => bnd (truthyM v1) fun t => bM t (execKs T43 n_follow_hole_B2 [.ref sc, tok k x v n e l, .ref o] (fun σ => retK T43 (tlN (tlN (tlN n_follow_hole))) σ) (fun z' => failM) (fun v z' => ret v)) (execKs T43 n_follow_hole_B6 [.ref sc, tok k x v n e l, .ref o] (fun σ => retK T43 (tlN (tlN (tlN n_follow_hole))) σ) (fun z' => failM) (fun v z' => ret v))) H by kernel_rfl).trans (A.trans ?_)
  refine (show _ = bnd (f_is_brace [tok k x v n e l, .str [125]]) (fun v1 => bnd (truthyM v1) fun t => bM t (bnd (idxV (.ref o) (.int (-1))) fun v2 => hB (cmpB .Gt v2 (.int 0)) fun r => bM r (execKs T43 n_follow_hole_B3 [.ref sc, tok k x v n e l, .ref o] (fun σ => retK T43 (tlN (tlN (tlN n_follow_hole))) σ) (fun z' => failM) (fun v z' => ret v)) (execKs T43 n_follow_hole_B5 [.ref sc, tok k x v n e l, .ref o] (fun σ => retK T43 (tlN (tlN (tlN n_follow_hole))) σ) (fun z' => failM) (fun v z' => ret v))) (execKs T43 n_follow_hole_B5 [.ref sc, tok k x v n e l, .ref o] (fun σ => retK T43 (tlN (tlN (tlN n_follow_hole))) σ) (fun z' => failM) (fun v z' => ret v))) H by kernel_rfl).trans (A.trans ?_)
  refine (show _ = bnd (f_is_brace [tok k x v n e l, .str [125]]) (fun v1 => bnd (truthyM v1) fun t => bM t (execKs T43 n_follow_hole_B4 [.ref sc, tok k x v n e l, .ref o] (fun σ => retK T43 (tlN (tlN (tlN n_follow_hole))) σ) (fun z' => failM) (fun v z' => ret v)) (ret (tok k x v n e l))) H by kernel_rfl).trans (A.trans rfl)
theorem fol_open (ho : H[o]? = some (.list [.int ((0 : Nat) : Int)])) : retK T43 (tlN (tlN n_follow_hole)) [.ref sc, tok 5 [123] v n e l, .ref o] H = some (tok 5 [123] v n e l, H.set o (.list [.int ((1 : Nat) : Int)])) := by
  refine (show _ = bnd (idxV (.ref o) (.int (-1))) (fun v1 => bnd (augV .Add v1 (.int ((1 : Nat) : Int))) fun r => bnd (setIdxV (.ref o) (.int (-1)) r) fun z' => ret (tok 5 [123] v n e l)) H by kernel_rfl).trans ((bnd_of (idx_last (vs := []) ho)).trans ?_)
  refine (show _ = bnd (setIdxV (.ref o) (.int (-1)) (.int ((1 : Nat) : Int))) (fun z' => ret (tok 5 [123] v n e l)) H by kernel_rfl).trans ((bnd_of (setIdx_one ho)).trans rfl)
theorem fol_shut (ho : H[o]? = some (.list [.int ((1 : Nat) : Int)])) : retK T43 (tlN (tlN n_follow_hole)) [.ref sc, tok 5 [125] v n e l, .ref o] H = some (tok 5 [125] v n e l, H.set o (.list [.int ((0 : Nat) : Int)])) := by
  refine (show _ = bnd (idxV (.ref o) (.int (-1))) (fun v2 => hB (cmpB .Gt v2 (.int ((0 : Nat) : Int))) fun r => bM r (execKs T43 n_follow_hole_B3 [.ref sc, tok 5 [125] v n e l, .ref o] (fun σ => retK T43 (tlN (tlN (tlN n_follow_hole))) σ) (fun z' => failM) (fun v z' => ret v)) (execKs T43 n_follow_hole_B5 [.ref sc, tok 5 [125] v n e l, .ref o] (fun σ => retK T43 (tlN (tlN (tlN n_follow_hole))) σ) (fun z' => failM) (fun v z' => ret v))) H by kernel_rfl).trans ((bnd_of (idx_last (vs := []) ho)).trans ?_)
  refine (show _ = bnd (idxV (.ref o) (.int (-1))) (fun v1 => bnd (augV .Sub v1 (.int ((1 : Nat) : Int))) fun r => bnd (setIdxV (.ref o) (.int (-1)) r) fun z' => ret (tok 5 [125] v n e l)) H by kernel_rfl).trans ((bnd_of (idx_last (vs := []) ho)).trans ?_)
  refine (show _ = bnd (setIdxV (.ref o) (.int (-1)) (.int ((0 : Nat) : Int))) (fun z' => ret (tok 5 [125] v n e l)) H by kernel_rfl).trans ((bnd_of (setIdx_one ho)).trans rfl)
noncomputable abbrev natsV (hs : List Nat) : List V := hs.map fun (c : Nat) => V.int (c : Int)
inductive Fol : Nat → List Nat → List Nat → List Nat → Prop
  | head0 {x : List Nat} : Fol 7 x [] [0]
  | head1 {x : List Nat} : Fol 7 x [0] [0, 0]
  | out {k : Nat} {x : List Nat} : ((k : Int) == 7) = false → Fol k x [] []
  | in0 {k : Nat} {x : List Nat} : ((k : Int) == 7) = false → ((k : Int) == 5) = false → Fol k x [0] [0]
  | in1 {k : Nat} {x : List Nat} : ((k : Int) == 7) = false → ((k : Int) == 5) = false → Fol k x [0, 0] [0, 0]
  | opens : Fol 5 [123] [0] [1]
  | shuts : Fol 5 [125] [1] [0]
theorem follow_ok {hs hs' : List Nat} (hf : Fol k x hs hs') (ho : H[o]? = some (.list (natsV hs))) : f_follow [.ref sc, tok k x v n e l, .ref o] H = some (tok k x v n e l, H.set o (.list (natsV hs'))) := by
  refine runK_le H _ ?_
  cases hf with
  | head0 => exact (fol_head ho (by decide)).trans ((fol_test (set_get ho)).trans (fol_other rfl))
  | head1 => exact (fol_head ho (by decide)).trans ((fol_test (set_get ho)).trans (fol_other rfl))
  | out h => exact (fol_skip h).trans ((fol_test ho).trans (by rw [set_same ho]; rfl))
  | in0 h h' => exact (fol_skip h).trans ((fol_test ho).trans ((fol_other h').trans (by rw [set_same ho])))
  | in1 h h' => exact (fol_skip h).trans ((fol_test ho).trans ((fol_other h').trans (by rw [set_same ho])))
  | opens => exact (fol_skip rfl).trans ((fol_test ho).trans (fol_open ho))
  | shuts => exact (fol_skip rfl).trans ((fol_test ho).trans (fol_shut ho))
end
section
variable {t s bs : List Nat} {n m sc r o : Nat} {la : V} {H : Hp}
theorem follow_tail {n0 e : Nat} {l : Bool} {rows hs : List V} {rest body : List Nat} {cks : List (List Nat)} {b : Bool} (ho : H[o]? = some (.list (hs ++ [.int ((0 : Nat) : Int)]))) (hs' : H[sc]? = some (scn t m r (tok 5 [125] 0 n0 e l))) (ht : t.length + 2 ≤ SZ) (hr' : Run okT (96 :: rest) body cks b) (h : t.drop n0 = 125 :: (body ++ 96 :: rest)) (hf : cks.flatten.length ≤ SZ) (hg : H[r]? = some (.list rows)) (hr : rows.length < SZ) (hne : sc ≠ r) (hor : o ≠ r) (hos : o ≠ sc) :
    f_follow [.ref sc, tok 5 [125] 0 n0 e l, .ref o] H = some (tok 9 cks.flatten 0 n0 (n0 + 1 + body.length + 1) l, ((H.set r (.list (rows ++ tellIf b n0))).set sc (scn t (n0 + 1 + body.length + 1) r (tok 9 cks.flatten 0 n0 (n0 + 1 + body.length + 1) l))).set o (.list hs)) := by
  refine runK_le H _ ((fol_skip rfl).trans ((fol_test ho).trans ?_))
  rw [show (!(hs ++ [V.int ((0 : Nat) : Int)]).isEmpty) = true by cases hs <;> rfl]
  refine (show _ = bnd (idxV (.ref o) (.int (-1))) (fun v2 => hB (cmpB .Gt v2 (.int ((0 : Nat) : Int))) fun r => bM r (execKs T43 n_follow_hole_B3 [.ref sc, tok 5 [125] 0 n0 e l, .ref o] (fun σ => retK T43 (tlN (tlN (tlN n_follow_hole))) σ) (fun z' => failM) (fun v z' => ret v)) (execKs T43 n_follow_hole_B5 [.ref sc, tok 5 [125] 0 n0 e l, .ref o] (fun σ => retK T43 (tlN (tlN (tlN n_follow_hole))) σ) (fun z' => failM) (fun v z' => ret v))) H by kernel_rfl).trans ((bnd_of (idx_last ho)).trans ?_)
  refine (show _ = hB (recvK (.ref sc) 8) (fun f => bnd (methV T43 f (.ref sc) 8 []) fun v => execKs T43 (tlN n_follow_hole_B4) [.ref sc, v, .ref o] (fun σ => retK T43 (tlN (tlN (tlN n_follow_hole))) σ) (fun z' => failM) (fun v z' => ret v)) H by kernel_rfl).trans ((hB_of (recv_ins hs' rfl)).trans ?_)
  refine (show _ = bnd (f_rescan [.ref sc]) (fun v => execKs T43 (tlN n_follow_hole_B4) [.ref sc, v, .ref o] (fun σ => retK T43 (tlN (tlN (tlN n_follow_hole))) σ) (fun z' => failM) (fun v z' => ret v)) H by kernel_rfl).trans ((bnd_of (rescan_ok hs' (.inl ⟨rest, rfl, rfl, rfl⟩) ht hr' h hf hg hr hne)).trans ?_)
  have ho2 : ((H.set r (.list (rows ++ tellIf b n0))).set sc (scn t (n0 + 1 + body.length + 1) r (tok 9 cks.flatten 0 n0 (n0 + 1 + body.length + 1) l)))[o]? = some (.list (hs ++ [.int ((0 : Nat) : Int)])) := by
    rw [List.getElem?_set_ne (Ne.symm hos), List.getElem?_set_ne (Ne.symm hor)]; exact ho
  refine (show _ = hB (recvK (.ref o) 2) (fun f => bnd (methV T43 f (.ref o) 2 []) fun z' => ret (tok 9 cks.flatten 0 n0 (n0 + 1 + body.length + 1) l)) ((H.set r (.list (rows ++ tellIf b n0))).set sc (scn t (n0 + 1 + body.length + 1) r (tok 9 cks.flatten 0 n0 (n0 + 1 + body.length + 1) l))) by kernel_rfl).trans ((hB_of (recv_list ho2 (by decide))).trans ?_)
  exact (bnd_of (pop_ok ho2)).trans rfl
end
noncomputable def T44 : Tab := extT T43 514 f_follow
noncomputable def f_Scanner : Fn := ctorF T44 false false 503 3 3 n_Scanner
noncomputable def T45 : Tab := extT T44 503 f_Scanner
end

section

inductive Lx (t : List Nat) : Nat → List Nat → List V → List V → Prop
  | fin {n : Nat} {bs : List Nat} : t.drop n = bs → bs.all isB = true → Lx t n [] [tok 0 [] 0 (n + bs.length) (n + bs.length) (bs.any isLE)] []
  | tk {n w k v : Nat} {s bs x hs hs' : List Nat} {b : Bool} {out tells : List V} : Lex s w k x v b → ((k : Int) == 0) = false → stopB s → s ≠ [] → t.drop n = bs ++ s → bs.all isB = true → x.length ≤ SZ → Fol k x hs hs' →
      Lx t (n + bs.length + w) hs' out tells → Lx t n hs (tok k x v (n + bs.length) (n + bs.length + w) (bs.any isLE) :: out) (tellIf b (n + bs.length) ++ tells)
  | tail {n : Nat} {bs body rest hs : List Nat} {cks : List (List Nat)} {b : Bool} {out tells : List V} : t.drop n = bs ++ 125 :: (body ++ 96 :: rest) → bs.all isB = true → Run okT (96 :: rest) body cks b → cks.flatten.length ≤ SZ →
      Lx t (n + bs.length + 1 + body.length + 1) hs out tells → Lx t n (hs ++ [0]) (tok 9 cks.flatten 0 (n + bs.length) (n + bs.length + 1 + body.length + 1) (bs.any isLE) :: out) (tellIf b (n + bs.length) ++ tells)

noncomputable def f_scan_all : Fn := runF T45 5 2 n_scan_all
noncomputable abbrev Q (H : Hp) (a b c : O) : Hp := H ++ [a, b, c]
section
variable {H : Hp} {a b c x : O} {L : Nat}
theorem Q0 (h : H.length = L) : (Q H a b c)[L]? = some a := by subst h; rw [List.getElem?_append_right (Nat.le_refl _), Nat.sub_self]; rfl
theorem Q1 (h : H.length = L) : (Q H a b c)[L + 1]? = some b := by subst h; rw [List.getElem?_append_right (Nat.le_add_right _ _), Nat.add_sub_cancel_left]; rfl
theorem Q2 (h : H.length = L) : (Q H a b c)[L + 2]? = some c := by subst h; rw [List.getElem?_append_right (Nat.le_add_right _ _), Nat.add_sub_cancel_left]; rfl
theorem Qr {r : Nat} (h : H[r]? = some x) : (Q H a b c)[r]? = some x := by rw [List.getElem?_append_left (List.getElem?_eq_some_iff.mp h).1]; exact h
theorem Q0s (h : H.length = L) : (Q H a b c).set L x = Q H x b c := by subst h; rw [List.set_append_right _ _ (Nat.le_refl _), Nat.sub_self]; rfl
theorem Q1s (h : H.length = L) : (Q H a b c).set (L + 1) x = Q H a x c := by subst h; rw [List.set_append_right _ _ (Nat.le_add_right _ _), Nat.add_sub_cancel_left]; rfl
theorem Q2s (h : H.length = L) : (Q H a b c).set (L + 2) x = Q H a b x := by subst h; rw [List.set_append_right _ _ (Nat.le_add_right _ _), Nat.add_sub_cancel_left]; rfl
theorem Qrs {r : Nat} {y : O} (h : H[r]? = some x) : (Q H a b c).set r y = Q (H.set r y) a b c := by rw [List.set_append_left _ _ (List.getElem?_eq_some_iff.mp h).1]
end
section
variable {t : List Nat} {r L : Nat} {K B : List V → Ms} {R : V → List V → Ms}
noncomputable abbrev saσ (t : List Nat) (r L : Nat) : List V := [.str t, dgs r, .ref L, .ref (L + 1), .ref (L + 2)]
theorem sa_go {kt kf : Ms} {G : Hp} (h : G[L + 2]? = some (.list [])) : testK T45 n_scan_all_L2c (saσ t r L) kt kf G = kt G := by
  refine (show _ = bnd (truthyM (.ref (L + 2))) (fun t0 => bM t0 (bnd (idxV (.ref (L + 2)) (.int (-1))) fun v => bnd (attrV v 0) fun v => hB (cmpB .NotEq v (.int 0)) fun r => bM r kt kf) kt) G by kernel_rfl).trans ?_
  exact (bnd_of (truthy_ref h)).trans rfl
theorem sa_test {kt kf : Ms} {G : Hp} {acc : List V} {k v n e : Nat} {x : List Nat} {l : Bool} (h : G[L + 2]? = some (.list (acc ++ [tok k x v n e l]))) : testK T45 n_scan_all_L2c (saσ t r L) kt kf G = bM (!((k : Int) == 0)) kt kf G := by
  refine (show _ = bnd (truthyM (.ref (L + 2))) (fun t0 => bM t0 (bnd (idxV (.ref (L + 2)) (.int (-1))) fun v => bnd (attrV v 0) fun v => hB (cmpB .NotEq v (.int 0)) fun r => bM r kt kf) kt) G by kernel_rfl).trans ?_
  refine (bnd_of (truthy_ref h)).trans ?_
  rw [show (!(acc ++ [tok k x v n e l]).isEmpty) = true by cases acc <;> rfl]
  show bnd (idxV (.ref (L + 2)) (.int (-1))) (fun v => bnd (attrV v 0) fun v => hB (cmpB .NotEq v (.int 0)) fun r => bM r kt kf) G = _
  exact (bnd_of (idx_last h)).trans (by kernel_rfl)
theorem sa_turn {a b : V} {G G1 H2 : Hp} {s2 h2 : O} {acc : List V} (h0 : H2.length = L) (hs : ∃ vs, G[L]? = some (.inst 503 vs)) (hl : ∃ vs, G[L + 2]? = some (.list vs)) (ht : f_take [.ref L] G = some (a, G1)) (hf : f_follow [.ref L, a, .ref (L + 1)] G1 = some (b, Q H2 s2 h2 (.list acc))) (hz : acc.length < SZ) :
    execKs T45 n_scan_all_L2b (saσ t r L) K B R G = K (saσ t r L) (Q H2 s2 h2 (.list (acc ++ [b]))) := by
  obtain ⟨vs, hs⟩ := hs
  obtain ⟨ws, hl⟩ := hl
  refine (show _ = hB (recvK (.ref (L + 2)) 0) (fun f => hB (recvK (.ref L) 7) fun g => bnd (methV T45 g (.ref L) 7 []) fun a => bnd (f_follow [.ref L, a, .ref (L + 1)]) fun v => bnd (methV T45 f (.ref (L + 2)) 0 [v]) fun z' => K (saσ t r L)) G by kernel_rfl).trans ?_
  refine (hB_of (recv_list hl (by decide))).trans ((hB_of (recv_ins hs rfl)).trans ((show _ = bnd (f_take [.ref L]) (fun a => bnd (f_follow [.ref L, a, .ref (L + 1)]) fun v => bnd (bmeth (.ref (L + 2)) 0 [v]) fun z' => K (saσ t r L)) G by kernel_rfl).trans ((bnd_of ht).trans ((bnd_of hf).trans ((bnd_of (append_ok (Q2 h0) hz)).trans ?_)))))
  rw [Q2s h0]
theorem sa_pre {acc : List V} {G : Hp} {kt kf : Ms} (h : G[L + 2]? = some (.list acc)) (hp : acc = [] ∨ ∃ (as : List V) (k : Nat) (x : List Nat) (v n e : Nat) (l : Bool), acc = as ++ [tok k x v n e l] ∧ ((k : Int) == 0) = false) : testK T45 n_scan_all_L2c (saσ t r L) kt kf G = kt G := by
  rcases hp with rfl | ⟨as, k, x, v, n, e, l, rfl, hk⟩
  · exact sa_go h
  · rw [sa_test h, hk]; rfl
theorem sa_step {k : Nat} {a b : V} {G G1 H2 : Hp} {s2 h2 : O} {acc : List V} {p : (Fl × List V) × Hp} (h0 : H2.length = L) (hp : acc = [] ∨ ∃ (as : List V) (k : Nat) (x : List Nat) (v n e : Nat) (l : Bool), acc = as ++ [tok k x v n e l] ∧ ((k : Int) == 0) = false) (hs : ∃ vs, G[L]? = some (.inst 503 vs)) (hl : G[L + 2]? = some (.list acc)) (ht : f_take [.ref L] G = some (a, G1)) (hf : f_follow [.ref L, a, .ref (L + 1)] G1 = some (b, Q H2 s2 h2 (.list acc))) (hz : acc.length < SZ)
    (e : whileN (evalB T45 n_scan_all_L2c) (execSs T45 n_scan_all_L2b) k (saσ t r L) (Q H2 s2 h2 (.list (acc ++ [b]))) = some p) : whileN (evalB T45 n_scan_all_L2c) (execSs T45 n_scan_all_L2b) (k + 1) (saσ t r L) G = some p :=
  while_le G _ ((sa_pre hl hp).trans ((sa_turn h0 hs ⟨_, hl⟩ ht hf hz).trans e))
theorem sa_loop {n : Nat} {hs : List Nat} {out tells : List V} (ht : t.length + 2 ≤ SZ) (hx : Lx t n hs out tells) : ∀ (H : Hp) (la : V) (rows acc : List V) (k : Nat), H.length = L → H[r]? = some (.list rows) → r < L → acc.length + out.length ≤ SZ → rows.length + tells.length < SZ → out.length < k →
    (acc = [] ∨ ∃ (as : List V) (k : Nat) (x : List Nat) (v n e : Nat) (l : Bool), acc = as ++ [tok k x v n e l] ∧ ((k : Int) == 0) = false) →
    ∃ s', whileN (evalB T45 n_scan_all_L2c) (execSs T45 n_scan_all_L2b) k (saσ t r L) (Q H (scn t n r la) (.list (natsV hs)) (.list acc)) = some ((.next, saσ t r L), Q (H.set r (.list (rows ++ tells))) s' (.list []) (.list (acc ++ out))) := by
  induction hx with
  | @fin n bs h hb =>
    intro H la rows acc k hL hg hrL ha hr hk hp
    match k, hk with
    | k + 2, hk =>
      have hz : bs.length < FUEL := Nat.lt_of_le_of_lt (show bs.length ≤ SZ by rw [← h, List.length_drop]; omega) (by decide)
      refine ⟨scn t (n + bs.length) r (tok 0 [] 0 (n + bs.length) (n + bs.length) (bs.any isLE)), sa_step (H2 := H) hL hp ⟨_, Q0 hL⟩ (Q2 hL) (take_end (Q0 hL) h hb hz) ((congrArg (f_follow _) (Q0s hL)).trans ((follow_ok (.out rfl) (Q1 hL)).trans (by rw [Q1s hL]))) (Nat.lt_of_lt_of_le (Nat.lt_succ_self _) ha) (while_le _ _ ((sa_test (Q2 hL)).trans ?_))⟩
      rw [set_nil hg]; rfl
  | @tk n w k v s bs x hs hs' b out tells hl hk0 hst hne h hb hz hf _ ih =>
    intro H la rows acc k' hL hg hrL ha hr hk hp
    match k', hk with
    | k' + 1, hk =>
      have hrs : rows.length < SZ := Nat.lt_of_le_of_lt (Nat.le_add_right _ _) hr
      rw [List.length_append, ← Nat.add_assoc, ← List.length_append] at hr
      rw [List.length_cons, Nat.add_comm out.length, ← Nat.add_assoc] at ha
      obtain ⟨s', e⟩ := ih (H.set r (.list (rows ++ tellIf b (n + bs.length)))) (tok k x v (n + bs.length) (n + bs.length + w) (bs.any isLE)) (rows ++ tellIf b (n + bs.length)) (acc ++ [tok k x v (n + bs.length) (n + bs.length + w) (bs.any isLE)]) k' (by rw [List.length_set]; exact hL) (set_get hg) hrL (by rw [List.length_append]; exact ha) hr (Nat.lt_of_succ_lt_succ hk) (.inr ⟨_, _, _, _, _, _, _, rfl, hk0⟩)
      have hL2 : (H.set r (.list (rows ++ tellIf b (n + bs.length)))).length = L := by rw [List.length_set]; exact hL
      refine ⟨s', sa_step (H2 := H.set r (.list (rows ++ tellIf b (n + bs.length)))) hL2 hp ⟨_, Q0 hL⟩ (Q2 hL) (take_tok hl (Q0 hL) hst hne h hb ht hz (Qr hg) hrs (Nat.ne_of_gt hrL)) ((congrArg (f_follow _) (by rw [Qrs hg, Q0s hL2])).trans ((follow_ok hf (Q1 hL2)).trans (by rw [Q1s hL2]))) (Nat.lt_of_lt_of_le (Nat.lt_succ_self _) (Nat.le_trans (Nat.le_add_right _ _) ha)) (e.trans ?_)⟩
      rw [List.set_set, List.append_assoc, List.append_assoc]; rfl
  | @tail n bs body rest hs cks b out tells h hb hr' hf _ ih =>
    intro H la rows acc k' hL hg hrL ha hr hk hp
    match k', hk with
    | k' + 1, hk =>
      have hrs : rows.length < SZ := Nat.lt_of_le_of_lt (Nat.le_add_right _ _) hr
      rw [List.length_append, ← Nat.add_assoc, ← List.length_append] at hr
      rw [List.length_cons, Nat.add_comm out.length, ← Nat.add_assoc] at ha
      have hL2 : (H.set r (.list (rows ++ tellIf b (n + bs.length)))).length = L := by rw [List.length_set]; exact hL
      obtain ⟨s', e⟩ := ih (H.set r (.list (rows ++ tellIf b (n + bs.length)))) (tok 9 cks.flatten 0 (n + bs.length) (n + bs.length + 1 + body.length + 1) (bs.any isLE)) (rows ++ tellIf b (n + bs.length)) (acc ++ [tok 9 cks.flatten 0 (n + bs.length) (n + bs.length + 1 + body.length + 1) (bs.any isLE)]) k' hL2 (set_get hg) hrL (by rw [List.length_append]; exact ha) hr (Nat.lt_of_succ_lt_succ hk) (.inr ⟨_, _, _, _, _, _, _, rfl, rfl⟩)
      refine ⟨s', sa_step (H2 := H.set r (.list (rows ++ tellIf b (n + bs.length)))) hL2 hp ⟨_, Q0 hL⟩ (Q2 hL) (take_tok (.sign (.inr (.inr (.inr (.inr rfl))))) (Q0 hL) ⟨rfl, rfl⟩ (by intro z; cases z) h hb ht (by decide) (Qr hg) hrs (Nat.ne_of_gt hrL))
        ((congrArg (f_follow _) (by rw [Qrs hg, show tellIf false (n + bs.length) = [] from rfl, set_nil hg, Q0s hL])).trans ((follow_tail (H := Q H (scn t (n + bs.length + 1) r (tok 5 [125] 0 (n + bs.length) (n + bs.length + 1) (bs.any isLE))) (.list (natsV (hs ++ [0]))) (.list acc)) (hs := natsV hs) ((Q1 hL).trans (by rw [show natsV (hs ++ [0]) = natsV hs ++ natsV [0] from List.map_append]; rfl)) (Q0 hL) ht hr' (drop_add h) hf (Qr hg) hrs (Nat.ne_of_gt hrL) (Nat.ne_of_gt (Nat.lt_succ_of_lt hrL)) (Nat.succ_ne_self _)).trans (by rw [Qrs hg, Q0s hL2, Q1s hL2]))) (Nat.lt_of_lt_of_le (Nat.lt_succ_self _) (Nat.le_trans (Nat.le_add_right _ _) ha)) (e.trans ?_)⟩
      rw [List.set_set, List.append_assoc, List.append_assoc]; rfl
theorem new_at {G : Hp} {L : Nat} {vs : List V} (h : G.length = L) : newL vs G = some (.ref L, G ++ [.list vs]) := by subst h; rfl
theorem scan_all_ok {out tells rows : List V} {H : Hp} (ht : t.length + 2 ≤ SZ) (hx : Lx t 0 [] out tells) (hg : H[r]? = some (.list rows)) (hz : out.length ≤ SZ) (hr : rows.length + tells.length < SZ) :
    ∃ s', f_scan_all [.str t, dgs r] H = some (.ref (H.length + 2), Q (H.set r (.list (rows ++ tells))) s' (.list []) (.list out)) := by
  obtain ⟨s', e⟩ := sa_loop (L := H.length) ht hx H .none rows [] FUEL rfl hg (List.getElem?_eq_some_iff.mp hg).1 (by rw [List.length_nil, Nat.zero_add]; exact hz) hr (Nat.lt_of_le_of_lt hz (by decide)) (.inl rfl)
  refine ⟨s', runK_le H _ ((show _ = bnd (f_Scanner [.str t, dgs r]) (fun v1 => bnd (newL []) fun v2 => bnd (newL []) fun v3 => bnd (whileN (evalB T45 n_scan_all_L2c) (execSs T45 n_scan_all_L2b) FUEL [.str t, dgs r, v1, v2, v3]) (endK T45 n_scan_all_T4)) H by kernel_rfl).trans ?_)⟩
  refine (show _ = bnd (newL []) (fun v2 => bnd (newL []) fun v3 => bnd (whileN (evalB T45 n_scan_all_L2c) (execSs T45 n_scan_all_L2b) FUEL [.str t, dgs r, .ref H.length, v2, v3]) (endK T45 n_scan_all_T4)) (H ++ [scn t 0 r .none]) by kernel_rfl).trans ?_
  refine (bnd_of (new_at (L := H.length + 1) List.length_append)).trans ((bnd_of (new_at (L := H.length + 2) (by rw [List.length_append, List.length_append]; rfl))).trans ?_)
  rw [List.append_assoc, List.append_assoc]
  refine (bnd_of e).trans ?_
  refine (show _ = bnd (truthyM (.ref (H.length + 1))) (fun t0 => bM t0 (hB (cmpB .NotIn (.int 1160) .none) fun r => failM) (ret (.ref (H.length + 2)))) (Q (H.set r (.list (rows ++ tells))) s' (.list []) (.list ([] ++ out))) by kernel_rfl).trans ((bnd_of (truthy_ref (Q1 (List.length_set)))).trans rfl)
end
noncomputable def T46 : Tab := extT T45 521 f_scan_all
end

section

noncomputable abbrev prs (tl n : Nat) (ws : List V) : O := .inst 742 (.ref tl :: .int (n : Int) :: ws)
noncomputable def f_is_token : Fn := runF T46 3 3 n_is_token
section
variable {H : Hp} {k v n e p tl a j : Nat} {x : List Nat} {l : Bool} {ws toks : List V}
theorem is_token_ok {y : List Nat} {m : Nat} : f_is_token [tok k x v a e l, .int m, .str y] H = some (.bool (((k : Int) == m) && (x == y)), H) :=
  runK_le H _ ((show _ = bM ((k : Int) == m) (rB (x == y)) (rB ((k : Int) == m)) H by kernel_rfl).trans (by rw [and_ret]; rfl))
noncomputable def T47 : Tab := extT T46 767 f_is_token
noncomputable def f_now : Fn := runF T47 1 1 n_Parser_now
theorem len_ref {o : Nat} {vs : List V} (h : H[o]? = some (.list vs)) : biV .len [.ref o] H = some (.int vs.length, H) :=
  (show _ = orM (oB (strO (.ref o)) fun s => ret (V.int s.length)) (hB (lst (.ref o)) fun l => ret (V.int l.2.length)) H from rfl).trans ((orM_none rfl).trans ((hB_of (lst_ref h)).trans rfl))
theorem now_ok {tk : V} (hp : H[p]? = some (prs tl n ws)) (ht : H[tl]? = some (.list toks)) (hk : toks[n]? = some tk) : f_now [.ref p] H = some (tk, H) := by
  refine runK_le H _ ((show _ = bnd (attrV (.ref p) 12) (fun v1 => bnd (attrV (.ref p) 3) fun v2 => bnd (idxV v1 v2) ret) H by kernel_rfl).trans ?_)
  exact (bnd_of (attr_ins hp rfl)).trans ((bnd_of (attr_ins hp rfl)).trans ((bnd_of (idx_ref ht (place_nat (List.getElem?_eq_some_iff.mp hk).1) hk)).trans rfl))
noncomputable def T48 : Tab := extT T47 578 f_now
noncomputable def f_step : Fn := runF T48 2 1 n_Parser_step
theorem step_ok (hp : H[p]? = some (prs tl n ws)) (ht : H[tl]? = some (.list toks)) (hk : toks[n]? = some (tok k x v a e l)) (h0 : ((k : Int) == 0) = false) : f_step [.ref p] H = some (tok k x v a e l, H.set p (prs tl (n + 1) ws)) := by
  refine runK_le H _ ((show _ = bnd (attrV (.ref p) 12) (fun v1 => bnd (attrV (.ref p) 3) fun v2 => bnd (idxV v1 v2) fun tk => retK T48 (tlN n_Parser_step) [.ref p, tk]) H by kernel_rfl).trans ?_)
  refine (bnd_of (attr_ins hp rfl)).trans ((bnd_of (attr_ins hp rfl)).trans ((bnd_of (idx_ref ht (place_nat (List.getElem?_eq_some_iff.mp hk).1) hk)).trans ?_))
  refine (show _ = bM (!((k : Int) == 0)) (bnd (attrV (.ref p) 3) fun old => bnd (augV .Add old (.int ((1 : Nat) : Int))) fun r => bnd (setAttrV (.ref p) 3 r) fun z' => ret (tok k x v a e l)) (ret (tok k x v a e l)) H by kernel_rfl).trans ?_
  rw [h0]
  refine (show _ = bnd (attrV (.ref p) 3) (fun old => bnd (augV .Add old (.int ((1 : Nat) : Int))) fun r => bnd (setAttrV (.ref p) 3 r) fun z' => ret (tok k x v a e l)) H from rfl).trans ?_
  exact (bnd_of (attr_ins hp rfl)).trans ((show _ = bnd (setAttrV (.ref p) 3 (.int ((n + 1 : Nat) : Int))) (fun z' => ret (tok k x v a e l)) H by kernel_rfl).trans ((bnd_of (setAttr_ok (j := 1) hp rfl (Nat.succ_lt_succ (Nat.zero_lt_succ _)))).trans rfl))
noncomputable def T49 : Tab := extT T48 592 f_step
noncomputable def f_ahead : Fn := runF T49 3 2 n_Parser_ahead
theorem ahead_ok {tk : V} (hp : H[p]? = some (prs tl n ws)) (ht : H[tl]? = some (.list toks)) (hk : toks[n + j]? = some tk) : f_ahead [.ref p, .int j] H = some (tk, H) := by
  have hlt := (List.getElem?_eq_some_iff.mp hk).1
  refine runK_le H _ ((show _ = bnd (attrV (.ref p) 3) (fun v1 => bnd (binV .Add v1 (.int j)) fun v => retK T49 (tlN n_Parser_ahead) [.ref p, .int j, v]) H by kernel_rfl).trans ((bnd_of (attr_ins hp rfl)).trans ?_))
  refine (show _ = bnd (attrV (.ref p) 12) (fun v1 => bnd (biV .len [v1]) fun v2 => hB (cmpB .GtE (.int ((n + j : Nat) : Int)) v2) fun r => bM r (execKs T49 (.cons (.asg 2 n_Parser_ahead_E1) .nil) [.ref p, .int j, .int ((n + j : Nat) : Int)] (fun σ => retK T49 (tlN (tlN n_Parser_ahead)) σ) (fun z' => failM) (fun v z' => ret v)) (retK T49 (tlN (tlN n_Parser_ahead)) [.ref p, .int j, .int ((n + j : Nat) : Int)])) H by kernel_rfl).trans ((bnd_of (attr_ins hp rfl)).trans ((bnd_of (len_ref ht)).trans ?_))
  refine (show _ = bM (decide (((n + j : Nat) : Int) ≥ (toks.length : Int))) _ _ H from rfl).trans ?_
  rw [decide_eq_false (show ¬ (((n + j : Nat) : Int) ≥ (toks.length : Int)) from fun z => Nat.not_lt.mpr (Int.ofNat_le.mp z) hlt)]
  refine (show _ = bnd (attrV (.ref p) 12) (fun v1 => bnd (idxV v1 (.int ((n + j : Nat) : Int))) ret) H by kernel_rfl).trans ((bnd_of (attr_ins hp rfl)).trans ((bnd_of (idx_ref ht (place_nat hlt) hk)).trans rfl))
noncomputable def T50 : Tab := extT T49 585 f_ahead
noncomputable def f_is_sign : Fn := runF T50 2 2 n_Parser_is_sign
theorem is_sign_ok {y : List Nat} (hp : H[p]? = some (prs tl n ws)) (ht : H[tl]? = some (.list toks)) (hk : toks[n]? = some (tok k x v a e l)) : f_is_sign [.ref p, .str y] H = some (.bool (((k : Int) == 5) && (x == y)), H) := by
  refine runK_le H _ ((show _ = bnd (attrV (.ref p) 12) (fun v1 => bnd (attrV (.ref p) 3) fun v2 => bnd (idxV v1 v2) fun tk => bnd (f_is_token [tk, .int ((5 : Nat) : Int), .str y]) ret) H by kernel_rfl).trans ?_)
  exact (bnd_of (attr_ins hp rfl)).trans ((bnd_of (attr_ins hp rfl)).trans ((bnd_of (idx_ref ht (place_nat (List.getElem?_eq_some_iff.mp hk).1) hk)).trans ((bnd_of is_token_ok).trans rfl)))
noncomputable def T51 : Tab := extT T50 599 f_is_sign
noncomputable def f_eat_token : Fn := runF T51 3 3 n_eat_token
theorem eat_token_ok (hp : H[p]? = some (prs tl n ws)) (ht : H[tl]? = some (.list toks)) (hk : toks[n]? = some (tok 5 x v a e l)) : f_eat_token [.ref p, .int ((5 : Nat) : Int), .str x] H = some (.bool true, H.set p (prs tl (n + 1) ws)) := by
  refine runK_le H _ ((show _ = hB (recvK (.ref p) 9) (fun g => bnd (methV T51 g (.ref p) 9 []) fun tk => bnd (f_is_token [tk, .int ((5 : Nat) : Int), .str x]) fun v => bnd (truthyM v) fun t => bM t (retK T51 (tlN n_eat_token) [.ref p, .int ((5 : Nat) : Int), .str x]) (ret (.bool false))) H by kernel_rfl).trans ((hB_of (recv_ins hp rfl)).trans ?_))
  refine (show _ = bnd (f_now [.ref p]) (fun tk => bnd (f_is_token [tk, .int ((5 : Nat) : Int), .str x]) fun v => bnd (truthyM v) fun t => bM t (retK T51 (tlN n_eat_token) [.ref p, .int ((5 : Nat) : Int), .str x]) (ret (.bool false))) H by kernel_rfl).trans ((bnd_of (now_ok hp ht hk)).trans ((bnd_of is_token_ok).trans ?_))
  rw [show (x == x) = true from beq_self_eq_true x]
  refine (show _ = hB (recvK (.ref p) 10) (fun g => bnd (methV T51 g (.ref p) 10 []) fun z' => ret (.bool true)) H by kernel_rfl).trans ((hB_of (recv_ins hp rfl)).trans ?_)
  exact (show _ = bnd (f_step [.ref p]) (fun z' => ret (.bool true)) H by kernel_rfl).trans ((bnd_of (step_ok hp ht hk rfl)).trans rfl)
noncomputable def T52 : Tab := extT T51 781 f_eat_token
noncomputable def f_eat_sign : Fn := runF T52 2 2 n_Parser_eat_sign
theorem eat_sign_ok (hp : H[p]? = some (prs tl n ws)) (ht : H[tl]? = some (.list toks)) (hk : toks[n]? = some (tok 5 x v a e l)) : f_eat_sign [.ref p, .str x] H = some (.bool true, H.set p (prs tl (n + 1) ws)) :=
  runK_le H _ ((show _ = bnd (f_eat_token [.ref p, .int ((5 : Nat) : Int), .str x]) ret H by kernel_rfl).trans ((bnd_of (eat_token_ok hp ht hk)).trans rfl))
noncomputable def T53 : Tab := extT T52 620 f_eat_sign
noncomputable def f_names_prop : Fn := runF T53 1 1 n_names_prop
def isProp (k : Nat) : Bool := (k == 1 || k == 2) || (k == 4 || k == 3)
theorem prop4 {k : Nat} {P : Nat → Prop} (h : isProp k = true) (h1 : P 1) (h2 : P 2) (h3 : P 3) (h4 : P 4) : P k := by
  unfold isProp at h
  rw [Bool.or_eq_true, Bool.or_eq_true, Bool.or_eq_true, beq_iff_eq, beq_iff_eq, beq_iff_eq, beq_iff_eq] at h
  rcases h with (rfl | rfl) | (rfl | rfl) <;> assumption
theorem names_prop_ok (h : isProp k = true) : f_names_prop [tok k x v a e l] H = some (.bool true, H) :=
  prop4 (P := fun k => f_names_prop [tok k x v a e l] H = some (.bool true, H)) h (runK_le H _ (by kernel_rfl)) (runK_le H _ (by kernel_rfl)) (runK_le H _ (by kernel_rfl)) (runK_le H _ (by kernel_rfl))
theorem names_prop_no : f_names_prop [tok 5 x v a e l] H = some (.bool false, H) := runK_le H _ (by kernel_rfl)
noncomputable def T54 : Tab := extT T53 788 f_names_prop
noncomputable def f_literal : Fn := runF T54 1 1 n_literal_in_brackets
theorem literal_ok {v2 a2 e2 : Nat} {l2 : Bool} (hp : H[p]? = some (prs tl n ws)) (ht : H[tl]? = some (.list toks)) (hk : toks[n + 1]? = some (tok k x v a e l)) (hk2 : toks[n + 2]? = some (tok 5 [93] v2 a2 e2 l2)) (h : k = 3 ∨ k = 4 ∨ k = 6) : f_literal [.ref p] H = some (.bool true, H) := by
  refine runK_le H _ ((show _ = hB (recvK (.ref p) 11) (fun g => bnd (methV T54 g (.ref p) 11 [.int ((1 : Nat) : Int)]) fun tk => bnd (attrV tk 0) fun kv => hB (cmpB .In kv (.tup [.int ((4 : Nat) : Int), .int ((3 : Nat) : Int), .int ((6 : Nat) : Int)])) fun r => bM r (hB (recvK (.ref p) 11) fun g => bnd (methV T54 g (.ref p) 11 [.int ((2 : Nat) : Int)]) fun tk => bnd (f_is_token [tk, .int ((5 : Nat) : Int), .str [93]]) ret) (rB r)) H by kernel_rfl).trans ((hB_of (recv_ins hp rfl)).trans ?_))
  refine (show _ = bnd (f_ahead [.ref p, .int ((1 : Nat) : Int)]) (fun tk => bnd (attrV tk 0) fun kv => hB (cmpB .In kv (.tup [.int ((4 : Nat) : Int), .int ((3 : Nat) : Int), .int ((6 : Nat) : Int)])) fun r => bM r (hB (recvK (.ref p) 11) fun g => bnd (methV T54 g (.ref p) 11 [.int ((2 : Nat) : Int)]) fun tk => bnd (f_is_token [tk, .int ((5 : Nat) : Int), .str [93]]) ret) (rB r)) H by kernel_rfl).trans ((bnd_of (ahead_ok hp ht hk)).trans ?_)
  have go : ∀ {D : Bool → M V}, bnd (attrV (tok k x v a e l) 0) (fun kv => hB (cmpB .In kv (.tup [.int ((4 : Nat) : Int), .int ((3 : Nat) : Int), .int ((6 : Nat) : Int)])) D) H = D true H := by
    rcases h with rfl | rfl | rfl <;> exact fun {D} => by kernel_rfl
  refine go.trans ((hB_of (recv_ins hp rfl)).trans ?_)
  exact (show _ = bnd (f_ahead [.ref p, .int ((2 : Nat) : Int)]) (fun tk => bnd (f_is_token [tk, .int ((5 : Nat) : Int), .str [93]]) ret) H by kernel_rfl).trans ((bnd_of (ahead_ok hp ht hk2)).trans ((bnd_of is_token_ok).trans rfl))
noncomputable def T55 : Tab := extT T54 795 f_literal
noncomputable def f_read_prop : Fn := runF T55 2 1 n_read_prop_name
theorem read_prop_ok (hp : H[p]? = some (prs tl n ws)) (ht : H[tl]? = some (.list toks)) (hk : toks[n]? = some (tok k x v a e l)) (h : isProp k = true) : f_read_prop [.ref p] H = some (.str x, H.set p (prs tl (n + 1) ws)) := by
  refine runK_le H _ ((show _ = hB (recvK (.ref p) 9) (fun g => bnd (methV T55 g (.ref p) 9 []) fun tk => bnd (f_names_prop [tk]) fun v => bnd (truthyM v) fun t => bM t (hB (recvK (.ref p) 10) fun g => bnd (methV T55 g (.ref p) 10 []) fun tk => bnd (attrV tk 1) ret) (retK T55 (tlN n_read_prop_name) [.ref p, .undef])) H by kernel_rfl).trans ((hB_of (recv_ins hp rfl)).trans ?_))
  refine (show _ = bnd (f_now [.ref p]) (fun tk => bnd (f_names_prop [tk]) fun v => bnd (truthyM v) fun t => bM t (hB (recvK (.ref p) 10) fun g => bnd (methV T55 g (.ref p) 10 []) fun tk => bnd (attrV tk 1) ret) (retK T55 (tlN n_read_prop_name) [.ref p, .undef])) H by kernel_rfl).trans ((bnd_of (now_ok hp ht hk)).trans ((bnd_of (names_prop_ok h)).trans ((hB_of (recv_ins hp rfl)).trans ?_)))
  have h0 : ((k : Int) == 0) = false := prop4 (P := fun k => ((k : Int) == 0) = false) h rfl rfl rfl rfl
  exact (show _ = bnd (f_step [.ref p]) (fun tk => bnd (attrV tk 1) ret) H by kernel_rfl).trans ((bnd_of (step_ok hp ht hk h0)).trans rfl)
theorem read_prop_lit {v1 a1 e1 v2 a2 e2 : Nat} {l1 l2 : Bool} (hp : H[p]? = some (prs tl n ws)) (ht : H[tl]? = some (.list toks)) (hne : tl ≠ p) (hk1 : toks[n]? = some (tok 5 [91] v1 a1 e1 l1)) (hk : toks[n + 1]? = some (tok k x v a e l)) (hk2 : toks[n + 2]? = some (tok 5 [93] v2 a2 e2 l2)) (h : k = 3 ∨ k = 4 ∨ k = 6) : f_read_prop [.ref p] H = some (.str x, H.set p (prs tl (n + 3) ws)) := by
  refine runK_le H _ ((show _ = hB (recvK (.ref p) 9) (fun g => bnd (methV T55 g (.ref p) 9 []) fun tk => bnd (f_names_prop [tk]) fun v => bnd (truthyM v) fun t => bM t (hB (recvK (.ref p) 10) fun g => bnd (methV T55 g (.ref p) 10 []) fun tk => bnd (attrV tk 1) ret) (retK T55 (tlN n_read_prop_name) [.ref p, .undef])) H by kernel_rfl).trans ((hB_of (recv_ins hp rfl)).trans ?_))
  refine (show _ = bnd (f_now [.ref p]) (fun tk => bnd (f_names_prop [tk]) fun v => bnd (truthyM v) fun t => bM t (hB (recvK (.ref p) 10) fun g => bnd (methV T55 g (.ref p) 10 []) fun tk => bnd (attrV tk 1) ret) (retK T55 (tlN n_read_prop_name) [.ref p, .undef])) H by kernel_rfl).trans ((bnd_of (now_ok hp ht hk1)).trans ((bnd_of names_prop_no).trans ?_))
  refine (show _ = hB (recvK (.ref p) 12) (fun g => bnd (methV T55 g (.ref p) 12 [.str [91]]) fun v => bnd (truthyM v) fun t => bM t (retK T55 (tlN (tlN n_read_prop_name)) [.ref p, .undef]) (execKs T55 n_read_prop_name_B1 [.ref p, .undef] (fun σ => retK T55 (tlN (tlN n_read_prop_name)) σ) (fun z' => failM) (fun v z' => ret v))) H by kernel_rfl).trans ((hB_of (recv_ins hp rfl)).trans ?_)
  refine (show _ = bnd (f_is_sign [.ref p, .str [91]]) (fun v => bnd (truthyM v) fun t => bM t (retK T55 (tlN (tlN n_read_prop_name)) [.ref p, .undef]) (execKs T55 n_read_prop_name_B1 [.ref p, .undef] (fun σ => retK T55 (tlN (tlN n_read_prop_name)) σ) (fun z' => failM) (fun v z' => ret v))) H by kernel_rfl).trans ((bnd_of (is_sign_ok hp ht hk1)).trans ?_)
  refine (show _ = bnd (f_literal [.ref p]) (fun v => bnd (truthyM v) fun t => bM t (retK T55 (tlN (tlN (tlN n_read_prop_name))) [.ref p, .undef]) (execKs T55 n_read_prop_name_B2 [.ref p, .undef] (fun σ => retK T55 (tlN (tlN (tlN n_read_prop_name))) σ) (fun z' => failM) (fun v z' => ret v))) H by kernel_rfl).trans ((bnd_of (literal_ok hp ht hk hk2 h)).trans ?_)
  have step : ∀ {G : Hp} {m : Nat} {D : V → M V} {k v a e : Nat} {x : List Nat} {l : Bool}, G[p]? = some (prs tl m ws) → G[tl]? = some (.list toks) → toks[m]? = some (tok k x v a e l) → ((k : Int) == 0) = false → hB (recvK (.ref p) 10) (fun g => bnd (methV T55 g (.ref p) 10 []) D) G = D (tok k x v a e l) (G.set p (prs tl (m + 1) ws)) := fun {G _ D _ _ _ _ _ _} hp ht hk h0 =>
    (hB_of (recv_ins hp rfl)).trans ((show _ = bnd (f_step [.ref p]) D G by kernel_rfl).trans (bnd_of (step_ok hp ht hk h0)))
  have nx : ∀ {G : Hp} {y : O}, G[tl]? = some (.list toks) → (G.set p y)[tl]? = some (.list toks) := fun h => by rw [List.getElem?_set_ne (Ne.symm hne)]; exact h
  have h0 : ((k : Int) == 0) = false := by rcases h with rfl | rfl | rfl <;> rfl
  refine (show _ = hB (recvK (.ref p) 10) (fun g => bnd (methV T55 g (.ref p) 10 []) fun z' => hB (recvK (.ref p) 10) fun g => bnd (methV T55 g (.ref p) 10 []) fun tk => bnd (attrV tk 1) fun s => hB (recvK (.ref p) 10) fun g => bnd (methV T55 g (.ref p) 10 []) fun z' => oB (defO s) ret) H by kernel_rfl).trans ((step hp ht hk1 rfl).trans ((step (set_get hp) (nx ht) hk h0).trans ?_))
  refine (show _ = hB (recvK (.ref p) 10) (fun g => bnd (methV T55 g (.ref p) 10 []) fun z' => ret (.str x)) ((H.set p (prs tl (n + 1) ws)).set p (prs tl (n + 1 + 1) ws)) by kernel_rfl).trans ((step (set_get (set_get hp)) (nx (nx ht)) hk2 rfl).trans ?_)
  rw [List.set_set, List.set_set]; rfl
end
noncomputable def T56 : Tab := extT T55 802 f_read_prop
noncomputable def f_Parser : Fn := ctorF T56 false false 742 3 3 n_Parser
noncomputable def T57 : Tab := extT T56 742 f_Parser
end

section

section
variable {T : Tab} {o : V} {vs : List V}
theorem for_run {t : List Nat ⊕ Nat} {b : N} {I : Nat → List V → Hp → Prop} (hit : ∀ n σ H, I n σ H → itemAt o n H = some vs[n]?)
    (turn : ∀ n v σ H, I n σ H → vs[n]? = some v → ∃ σ1 σ2 H2, bindT t v σ = some σ1 ∧ I (n + 1) σ2 H2 ∧ ∀ (K B : List V → Ms) (R : V → List V → Ms), execKs T b σ1 K B R H = K σ2 H2) :
    ∀ (k n : Nat) (σ : List V) (H : Hp), I n σ H → n ≤ vs.length → vs.length < n + k → ∃ σ' H', forN t o (execSs T b) k n σ H = some ((.next, σ'), H') ∧ I vs.length σ' H'
  | 0, n, σ, H, h, hn, hk => absurd hn (Nat.not_le.mpr hk)
  | k + 1, n, σ, H, h, hn, hk => by
    cases hv : vs[n]? with
    | none =>
      have e : n = vs.length := Nat.le_antisymm hn (List.getElem?_eq_none_iff.mp hv)
      exact ⟨σ, H, for_le H _ ((hB_of ((hit n σ H h).trans (congrArg some hv))).trans rfl), e ▸ h⟩
    | some v =>
      obtain ⟨σ1, σ2, H2, hb, h2, he⟩ := turn n v σ H h hv
      obtain ⟨σ', H', e, hI⟩ := for_run hit turn k (n + 1) σ2 H2 h2 (List.getElem?_eq_some_iff.mp hv).1 (by rw [Nat.add_right_comm]; exact hk)
      refine ⟨σ', H', for_le H _ ((hB_of ((hit n σ H h).trans (congrArg some hv))).trans ?_), hI⟩
      show oB (bindT t v σ) (fun σ1 => execKs T b σ1 (forN t o (execSs T b) k (n + 1)) (fun σ => ret (.next, σ)) fun v σ => ret (.rtn v, σ)) H = _
      rw [hb]
      exact (he _ _ _).trans e
theorem for_range {α : Type} {t : Nat} {b : N} {c : Nat} (f : Nat → α → List V) (g : Nat → α → Hp) (P : Nat → α → Prop)
    (turn : ∀ n a, n < c → P n a → ∃ a', P (n + 1) a' ∧ ∀ (K B : List V → Ms) (R : V → List V → Ms), execKs T b ((f n a).set t (.int n)) K B R (g n a) = K (f (n + 1) a') (g (n + 1) a'))
    (a : α) (h : P 0 a) (hc : c < FUEL) : ∃ a', P c a' ∧ forN (.inr t) (.rng 0 c) (execSs T b) FUEL 0 (f 0 a) (g 0 a) = some ((.next, f c a'), g c a') := by
  have main : ∀ (k n : Nat) (a : α), P n a → n ≤ c → c < n + k → ∃ a', P c a' ∧ forN (.inr t) (.rng 0 c) (execSs T b) k n (f n a) (g n a) = some ((.next, f c a'), g c a') := by
    intro k
    induction k with
    | zero => exact fun n a h hn hk => absurd hn (Nat.not_le.mpr hk)
    | succ k ih =>
      intro n a h hn hk
      rcases Nat.lt_or_ge n c with hl | hl
      · obtain ⟨a1, h1, e1⟩ := turn n a hl h
        obtain ⟨a2, h2, e2⟩ := ih (n + 1) a1 h1 hl (by rw [Nat.add_right_comm]; exact hk)
        exact ⟨a2, h2, for_le _ _ ((hB_of (item_rng hl)).trans ((e1 _ _ _).trans e2))⟩
      · cases Nat.le_antisymm hn hl
        exact ⟨a, h, for_le _ _ ((hB_of (item_rng_end (Nat.le_refl _))).trans rfl)⟩
  exact main FUEL 0 a h (Nat.zero_le c) (by rw [Nat.zero_add]; exact hc)
theorem comp_run {elt c : N} {H : Hp} {f : V → Option V} (hit : ∀ x n, itemAt o n (H ++ [x]) = some vs[n]?)
    (turn : ∀ v ∈ vs, ∀ x (K : M Unit), testK T c [v] (evalK T elt [v] fun y => bnd (bmeth (.ref H.length) 0 [y]) fun z' => K) K (H ++ [x]) = match f v with
      | none => K (H ++ [x])
      | some y => bnd (bmeth (.ref H.length) 0 [y]) (fun z' => K) (H ++ [x])) :
    ∀ (s : List V) (n k : Nat) (acc : List V), vs.drop n = s → s.length < k → acc.length + s.length ≤ SZ → compN (compF T elt c (.ref H.length)) o k n (H ++ [.list acc]) = some ((), H ++ [.list (acc ++ s.filterMap f)])
  | _, n, 0, acc, _, hk, _ => absurd hk (Nat.not_lt_zero _)
  | [], n, k + 1, acc, h, hk, hz => by
    refine comp_le _ _ ((hB_of ((hit _ n).trans (congrArg some (List.getElem?_eq_none_iff.mpr (List.drop_eq_nil_iff.mp h))))).trans ?_)
    rw [List.filterMap_nil, List.append_nil]; rfl
  | v :: s, n, k + 1, acc, h, hk, hz => by
    have hv : vs[n]? = some v := by rw [← List.head?_drop, h]; rfl
    have hs : vs.drop (n + 1) = s := by rw [← List.drop_drop, h]; rfl
    refine comp_le _ _ ((hB_of ((hit _ n).trans (congrArg some hv))).trans ((turn v (List.mem_of_getElem? hv) _ _).trans ?_))
    rw [List.length_cons, ← Nat.add_assoc] at hz
    cases hf : f v with
    | none =>
      rw [List.filterMap_cons_none hf]
      exact comp_run hit turn s (n + 1) k acc hs (Nat.lt_of_succ_lt_succ hk) (Nat.le_trans (Nat.le_succ _) hz)
    | some y =>
      rw [List.filterMap_cons_some hf]
      refine (bnd_of (append_ok get_new (Nat.lt_of_lt_of_le (Nat.lt_succ_of_le (Nat.le_add_right _ _)) hz))).trans ?_
      rw [set_new, show acc ++ y :: s.filterMap f = (acc ++ [y]) ++ s.filterMap f by rw [List.append_assoc]; rfl]
      exact comp_run hit turn s (n + 1) k (acc ++ [y]) hs (Nat.lt_of_succ_lt_succ hk) (by rw [List.length_append, List.length_singleton, Nat.add_right_comm]; exact hz)
theorem comp_ok {elt c it : N} {σ : List V} {H : Hp} {f : V → Option V} (hi : evalE T it σ H = some (o, H)) (hz : vs.length ≤ SZ) (hit : ∀ x n, itemAt o n (H ++ [x]) = some vs[n]?)
    (turn : ∀ v ∈ vs, ∀ x (K : M Unit), testK T c [v] (evalK T elt [v] fun y => bnd (bmeth (.ref H.length) 0 [y]) fun z' => K) K (H ++ [x]) = match f v with
      | none => K (H ++ [x])
      | some y => bnd (bmeth (.ref H.length) 0 [y]) (fun z' => K) (H ++ [x])) :
    evalE T (.comp elt c it) σ H = some (.ref H.length, H ++ [.list (vs.filterMap f)]) := by
  refine (show _ = bnd (evalE T it σ) (fun o => bnd (newL []) fun acc => bnd (compN (compF T elt c acc) o FUEL 0) fun z' => ret acc) H from rfl).trans ((bnd_of hi).trans ?_)
  exact (bnd_of (new_at rfl)).trans ((bnd_of (comp_run hit turn vs 0 FUEL [] rfl (Nat.lt_of_le_of_lt hz (by decide)) (by rw [List.length_nil, Nat.zero_add]; exact hz))).trans rfl)
theorem idx_tup {j : Nat} {v : V} {H : Hp} (h : vs[j]? = some v) : idxV (.tup vs) (.int j) H = some (v, H) := by
  refine (orM_none rfl).trans (orM_of ?_)
  show oB ((place j vs.length).bind fun j => vs[j]?) ret H = _
  rw [place_nat (List.getElem?_eq_some_iff.mp h).1]
  show oB vs[j]? ret H = _
  rw [h]; rfl
end

noncomputable abbrev drw (n s : Nat) : O := .list [.int (n : Int), .ref s]
structure Dr (H : Hp) (d s : Nat) (xs : List Nat) (n : Nat) : Prop where
  hd : H[d]? = some (drw n s)
  hs : H[s]? = some (.list (natsV xs))
  ne : d ≠ s
  some : xs ≠ []
  hz : xs.length ≤ SZ
theorem Dr.set {H : Hp} {d s n m : Nat} {xs : List Nat} (h : Dr H d s xs n) : Dr (H.set d (drw m s)) d s xs m :=
  ⟨set_get h.hd, by rw [List.getElem?_set_ne h.ne]; exact h.hs, h.ne, h.some, h.hz⟩
noncomputable def f_law_take : Fn := runF T57 3 2 n_law_take
section
variable {H : Hp} {d s n : Nat} {xs : List Nat}
theorem mod_nat {a b : Nat} (h : 0 < b) : binV .Mod (.int a) (.int b) H = some (.int ((a % b : Nat) : Int), H) := gd_H (Int.ofNat_lt.mpr h)
theorem div_nat {a b : Nat} (h : 0 < b) (hz : b ≤ SZ) : binV .FloorDiv (.int a) (.int b) H = some (.int ((a / b : Nat) : Int), H) := gd_H ⟨Int.ofNat_lt.mpr h, small_nat hz⟩
theorem mul_nat {a b : Nat} (h : a ≤ SZ) (hz : b ≤ SZ) : binV .Mult (.int a) (.int b) H = some (.int ((a * b : Nat) : Int), H) := gd_H (by rw [small_nat h, small_nat hz]; rfl)
theorem take_ok {m : Nat} (h : Dr H d s xs n) (hn : n ≤ SZ) (hm : 0 < m) : ∃ k, k < m ∧ f_law_take [.ref d, .int m] H = some (.int (k : Nat), H.set d (drw (n + 1) s)) := by
  have hl : 0 < xs.length := List.length_pos_iff.mpr h.some
  have hj : n % xs.length < xs.length := Nat.mod_lt _ hl
  have h' := h.set (m := n + 1)
  have il : (natsV xs).length = xs.length := List.length_map _
  refine ⟨(xs[n % xs.length] + 7 * (n / xs.length)) % m, Nat.mod_lt _ hm, runK_le H _ ?_⟩
  refine (show _ = bnd (idxV (.ref d) (.int ((0 : Nat) : Int))) (fun v => retK T57 (tlN n_law_take) [.ref d, .int m, v]) H by kernel_rfl).trans ((bnd_of (idx_ref h.hd rfl rfl)).trans ?_)
  refine (show _ = bnd (setIdxV (.ref d) (.int ((0 : Nat) : Int)) (.int ((n + 1 : Nat) : Int))) (fun z' => bnd (idxV (.ref d) (.int ((1 : Nat) : Int))) fun s1 => bnd (idxV (.ref d) (.int ((1 : Nat) : Int))) fun s2 => bnd (biV .len [s2]) fun l => bnd (binV .Mod (.int n) l) fun j => bnd (idxV s1 j) fun x => bnd (idxV (.ref d) (.int ((1 : Nat) : Int))) fun s3 => bnd (biV .len [s3]) fun l => bnd (binV .FloorDiv (.int n) l) fun q => bnd (binV .Mult (.int ((7 : Nat) : Int)) q) fun y => bnd (binV .Add x y) fun z => bnd (binV .Mod z (.int m)) ret) H by kernel_rfl).trans ?_
  refine (bnd_of (show setIdxV (.ref d) (.int ((0 : Nat) : Int)) (.int ((n + 1 : Nat) : Int)) H = some ((), H.set d (drw (n + 1) s)) from (hB_of (lst_ref h.hd)).trans rfl)).trans ?_
  have i1 : idxV (.ref d) (.int ((1 : Nat) : Int)) (H.set d (drw (n + 1) s)) = some (.ref s, H.set d (drw (n + 1) s)) := idx_ref h'.hd rfl rfl
  have l1 : biV .len [.ref s] (H.set d (drw (n + 1) s)) = some (.int xs.length, H.set d (drw (n + 1) s)) := by rw [← il]; exact len_ref h'.hs
  refine (bnd_of i1).trans ((bnd_of i1).trans ((bnd_of l1).trans ((bnd_of (mod_nat hl)).trans ((bnd_of (idx_ref (v := .int (xs[n % xs.length] : Nat)) h'.hs (place_nat (by rw [il]; exact hj)) ?_)).trans ((bnd_of i1).trans ((bnd_of l1).trans ((bnd_of (div_nat hl h.hz)).trans ((bnd_of (mul_nat (by decide) ?_)).trans ((bnd_of (show binV .Add (.int (xs[n % xs.length] : Nat)) (.int ((7 * (n / xs.length) : Nat) : Int)) _ = some (.int ((xs[n % xs.length] + 7 * (n / xs.length) : Nat) : Int), _) from rfl)).trans ((bnd_of (mod_nat hm)).trans rfl))))))))))
  · rw [List.getElem?_map, List.getElem?_eq_getElem hj]; rfl
  · exact Nat.le_trans (Nat.div_le_self _ _) hn
end
noncomputable def T58 : Tab := extT T57 809 f_law_take
noncomputable def f_law_reserved : Fn := runF T58 0 0 n_law_reserved
noncomputable def t_reserved : V := .tup (resW.map .str)
theorem reserved_ok {H : Hp} : f_law_reserved [] H = some (t_reserved, H) := runK_le H _ (by kernel_rfl)
noncomputable def T59 : Tab := extT T58 816 f_law_reserved
def okC (c : Nat) : Bool := !(decide (55296 ≤ c) && decide (c ≤ 57343))
def okW (w : List Nat) : Bool := w.all okC
noncomputable def okV (n : Nat) (v : V) : Bool := match strO v with
  | some w => okW w && decide (w.length ≤ n)
  | none => false
theorem okV_eq {n : Nat} {v : V} (h : okV n v = true) : ∃ w, v = .str w ∧ okW w = true ∧ w.length ≤ n := by
  unfold okV at h
  cases e : strO v with
  | none => rw [e] at h; cases h
  | some w =>
    rw [e] at h
    exact ⟨w, strO_eq e, (Bool.and_eq_true _ _).mp h |>.1, of_decide_eq_true ((Bool.and_eq_true _ _).mp h).2⟩
theorem idx_all {P : V → Bool} {vs : List V} {j : Nat} {H : Hp} (h : vs.all P = true) (hj : j < vs.length) : ∃ v, idxV (.tup vs) (.int j) H = some (v, H) ∧ P v = true :=
  ⟨vs[j], idx_tup (List.getElem?_eq_getElem hj), List.all_eq_true.mp h _ (List.getElem_mem hj)⟩
noncomputable def pieces : List V := [.str [36, 123], .str [34], .str [92], .str [96], .str [36], .str [123], .str [125], .str [39], .str [10], .str [13], .str [9], .str [0], .str [13, 10], .str [36, 36, 123], .str [8232], .str [8233], .str [127], .str [233], .str [1635], .str [8364], .str [65279], .str [65535], .str [65536], .str [128512], .str [31], .str [8], .str [160], .str [97], .str [48], .str [36], .str [120, 54, 48], .str [110]]
noncomputable def f_law_piece : Fn := runF T59 4 1 n_law_piece
theorem piece_ok {H : Hp} {d s n : Nat} {xs : List Nat} (h : Dr H d s xs n) (hn : n ≤ SZ) : ∃ w, okW w = true ∧ w.length ≤ 3 ∧ f_law_piece [.ref d] H = some (.str w, H.set d (drw (n + 1) s)) := by
  obtain ⟨k, hk, ht⟩ := take_ok (m := 1024) h hn (by decide)
  have q : k / 4 < 256 := by omega
  have A : runK T59 4 1 n_law_piece [.ref d] H = bM (((k % 4 : Nat) : Int) == 0) (bnd (idxV (.tup pieces) (.int ((k / 4 % 32 : Nat) : Int))) ret) (bM (((k % 4 : Nat) : Int) == 1) (bnd (biV .chr [.int ((k / 4 % 128 : Nat) : Int)]) ret) (bM (((k % 4 : Nat) : Int) == 2) (bnd (idxV (.str s_LAW64) (.int ((k / 4 % 64 : Nat) : Int))) ret) (bnd (idxV (.str s_DIGIT_LETTERS) (.int ((k / 4 % 10 : Nat) : Int))) ret))) (H.set d (drw (n + 1) s)) :=
    (show _ = bnd (f_law_take [.ref d, .int ((1024 : Nat) : Int)]) (fun v => retK T59 (tlN (tlN n_law_piece)) [.ref d, .tup pieces, v, .undef]) H by kernel_rfl).trans ((bnd_of ht).trans (by kernel_rfl))
  have S : ∀ {t : List Nat} {j : Nat} {G : Hp}, okW t = true → j < t.length → ∃ w, okW w = true ∧ w.length ≤ 3 ∧ bnd (idxV (.str t) (.int j)) ret G = some (.str w, G) := fun {t j G} ho hj => by
    rw [idx_str (List.drop_eq_getElem_cons hj)]
    exact ⟨[t[j]], by rw [okW, List.all_cons, List.all_eq_true.mp ho _ (List.getElem_mem hj)]; rfl, Nat.le_add_left 1 2, rfl⟩
  suffices hh : ∃ w, okW w = true ∧ w.length ≤ 3 ∧ runK T59 4 1 n_law_piece [.ref d] H = some (.str w, H.set d (drw (n + 1) s)) by
    obtain ⟨w, a, b, c⟩ := hh
    exact ⟨w, a, b, runK_le H _ c⟩
  rw [A]
  cases ((k % 4 : Nat) : Int) == 0 with
  | true =>
    obtain ⟨v, hv, ho⟩ := idx_all (P := okV 3) (vs := pieces) (j := k / 4 % 32) (H := H.set d (drw (n + 1) s)) (by kernel_rfl) (Nat.mod_lt _ (by decide))
    obtain ⟨w, rfl, a, b⟩ := okV_eq ho
    exact ⟨w, a, b, (bnd_of hv).trans rfl⟩
  | false => cases ((k % 4 : Nat) : Int) == 1 with
    | true =>
      have hl : k / 4 % 128 < 128 := Nat.mod_lt _ (by decide)
      refine ⟨[k / 4 % 128], ?_, Nat.le_add_left 1 2, (bnd_of (show biV .chr [.int ((k / 4 % 128 : Nat) : Int)] _ = some (.str [k / 4 % 128], _) from gd_H (Nat.ble_eq_true_of_le (Nat.le_trans (Nat.le_of_lt hl) (by decide))))).trans rfl⟩
      rw [okW, List.all_cons, okC, decide_eq_false (by omega)]; rfl
    | false => cases ((k % 4 : Nat) : Int) == 2 with
      | true => exact S (by kernel_rfl) (Nat.mod_lt _ (by decide))
      | false => exact S (by kernel_rfl) (Nat.mod_lt _ (by decide))
noncomputable def T60 : Tab := extT T59 823 f_law_piece
end

section

noncomputable def f_law_escapes : Fn := runF T60 0 0 n_law_escapes
noncomputable def escW : List (List Nat × List Nat) := [([97], [97]), ([92, 110], [10]), ([36], [36]), ([125], [125]), ([32], [32]), ([8232], [8232]), ([233], [233]), ([92, 116], [9]), ([92, 114], [13]), ([92, 98], [8]), ([92, 118], [11]), ([92, 102], [12]), ([92, 48], [0]), ([92, 120, 52, 49], [65]), ([92, 120, 53, 67], [92]), ([92, 117, 48, 48, 50, 50], [34]), ([92, 117, 123, 49, 102, 125], [31]), ([92, 117, 123, 48, 48, 102, 102, 102, 102, 125], [65535]), ([92, 117, 50, 48, 50, 56], [8232]), ([92, 113], [113]), ([92, 92], [92]), ([92, 96], [96]), ([92, 39], [39]), ([92, 34], [34]), ([92, 10], []), ([92, 13, 10], []), ([92, 8233], []), ([92, 120, 52, 103], []), ([92, 117, 49, 50, 103], []), ([92, 117, 123, 125], []), ([92, 117, 123, 49, 49, 48, 48, 48, 48, 125], []), ([92, 49], []), ([92, 117, 100, 56, 48, 48], []), ([92, 117, 123, 49, 48, 48, 48, 48, 125], [])]
noncomputable def pairV (p : List Nat × List Nat) : V := .tup [.str p.1, .str p.2]
theorem escapes_ok {H : Hp} : f_law_escapes [] H = some (.tup (escW.map pairV), H) := runK_le H _ (by kernel_rfl)
noncomputable def T61 : Tab := extT T60 830 f_law_escapes

def farB (s : List Nat) : Bool := s.any fun c => decide ((c : Int) > 65535)
noncomputable abbrev chars (s : List Nat) : List V := s.map fun c => .str [c]
theorem item_chars {s : List Nat} {n : Nat} {G : Hp} : itemAt (.str s) n G = some (chars s)[n]? := by rw [List.getElem?_map]; rfl
noncomputable def f_law_beyond : Fn := trunc 0 (runF T61 1 1 n_law_beyond)
noncomputable def farV (v : V) : Option V := (chrO v).bind fun c => bif decide ((c : Int) > 65535) then some v else none
theorem far_len : ∀ s : List Nat, decide ((((chars s).filterMap farV).length : Int) > 0) = farB s
  | [] => rfl
  | c :: s => by
    show decide (((List.filterMap farV (.str [c] :: chars s)).length : Int) > 0) = (decide ((c : Int) > 65535) || farB s)
    cases h : decide ((c : Int) > 65535) with
    | true =>
      rw [List.filterMap_cons_some (show farV (.str [c]) = some (.str [c]) by show (bif decide ((c : Int) > 65535) then _ else _) = _; rw [h]; rfl)]
      exact decide_eq_true (Int.ofNat_lt.mpr (Nat.succ_pos _))
    | false =>
      rw [List.filterMap_cons_none (show farV (.str [c]) = none by show (bif decide ((c : Int) > 65535) then _ else _) = _; rw [h]; rfl)]
      exact far_len s
theorem beyond_ok {s : List Nat} {H : Hp} (hz : s.length ≤ SZ) : f_law_beyond [.str s] H = some (.bool (farB s), H) := by
  have hc := comp_ok (T := T61) (elt := n_law_beyond_C1e) (c := n_law_beyond_C1c) (it := .loc 0) (σ := [.str s]) (H := H) (o := .str s) (vs := chars s) (f := farV) rfl (by rw [List.length_map]; exact hz) (fun z' z' => item_chars) (fun v hv x K => by
    obtain ⟨c, _, rfl⟩ := List.mem_map.mp hv
    refine (show _ = bM (decide ((c : Int) > 65535)) (bnd (bmeth (.ref H.length) 0 [.str [c]]) fun z' => K) K (H ++ [x]) by kernel_rfl).trans ?_
    show _ = match (bif decide ((c : Int) > 65535) then some (V.str [c]) else none) with
      | none => K (H ++ [x])
      | some y => bnd (bmeth (.ref H.length) 0 [y]) (fun z' => K) (H ++ [x])
    cases decide ((c : Int) > 65535) <;> rfl)
  refine trunc_eq (G := [.list ((chars s).filterMap farV)]) (runK_le H _ ?_) rfl rfl closed_same
  refine (show _ = bnd (evalE T61 (.comp n_law_beyond_C1e n_law_beyond_C1c (.loc 0)) [.str s]) (fun l => bnd (biV .len [l]) fun n => hB (cmpB .Gt n (.int ((0 : Nat) : Int))) fun r => ret (.bool r)) H by kernel_rfl).trans ((bnd_of hc).trans ((bnd_of (len_ref get_new)).trans ?_))
  show some (V.bool (decide ((((chars s).filterMap farV).length : Int) > 0)), H ++ [.list ((chars s).filterMap farV)]) = _
  rw [far_len]
noncomputable def T62 : Tab := extT T61 835 f_law_beyond

theorem wl64 (c : Nat) : s_LAW64.contains c = wl c := by
  rw [show s_LAW64 = s_NAME_LETTERS ++ s_DIGIT_LETTERS by kernel_rfl]
  exact List.contains_append
theorem any_res {s : List Nat} : ∀ (ks : List (List Nat)), anyEq (.str s) (ks.map .str) = some (ks.any (· == s))
  | [] => rfl
  | k :: ks => by
    show (eqP (.str k) (.str s)).bind (fun a => (anyEq (.str s) (ks.map .str)).map fun b => a || b) = _
    rw [any_res ks]; rfl
theorem look_any {s : List Nat} : ∀ (ks : List (List Nat)) (vs : List V), ks.length = vs.length → (lookupD s ks vs).isSome = ks.any (· == s)
  | [], [], _ => rfl
  | k :: ks, v :: vs, h => by
    show (if k = s then some v else lookupD s ks vs).isSome = ((k == s) || ks.any (· == s))
    by_cases e : k = s
    · rw [if_pos e, beq_iff_eq.mpr e]; rfl
    · rw [if_neg e, beq_eq_false_iff_ne.mpr e, look_any ks vs (Nat.succ.inj h)]; rfl
theorem res_in {s : List Nat} {H : Hp} : cmpB .In (.str s) t_reserved H = some (isRes s) := by
  show inV (.str s) (.tup (resW.map .str)) = some (lookupD s resW (List.replicate 36 (.int (.ofNat 1)))).isSome
  rw [look_any resW _ (by kernel_rfl)]
  exact any_res resW
noncomputable def kindN (s : List Nat) : Nat := bif standsB s then (bif isRes s then 2 else 1) else bif digitsB s then 3 else 4
noncomputable def f_law_kind : Fn := runF T62 4 1 n_law_kind
noncomputable def kindR (c : Nat) (s : List Nat) (D : Nat) : M V := bM (decide ((0 : Int) < D)) (bM (decide ((D : Int) < 16)) (bM ((D : Int) == ((c :: s).length : Nat)) (bM (!([c] == [48])) (rI ((3 : Nat) : Int)) (bM ((D : Int) == ((1 : Nat) : Int)) (rI ((3 : Nat) : Int)) (rI ((4 : Nat) : Int)))) (rI ((4 : Nat) : Int))) (rI ((4 : Nat) : Int))) (rI ((4 : Nat) : Int))
theorem digits_cons {c : Nat} {s : List Nat} : digitsB (c :: s) = (!(decide (((c :: s).length : Int) > 15) || ([c] == [48] && !((c :: s) == [48]))) && (c :: s).all s_DIGIT_LETTERS.contains) := rfl
theorem kind_rest {c : Nat} {s : List Nat} : kindR c s ((c :: s).countP s_DIGIT_LETTERS.contains) = rI ((bif digitsB (c :: s) then 3 else 4 : Nat) : Int) := by
  have z : ∀ {b : Bool}, bM b (rI ((4 : Nat) : Int)) (rI ((4 : Nat) : Int)) = rI ((4 : Nat) : Int) := fun {b} => by cases b <;> rfl
  rw [digits_cons]
  unfold kindR
  cases ha : (c :: s).all s_DIGIT_LETTERS.contains with
  | false =>
    have hn : (c :: s).countP s_DIGIT_LETTERS.contains ≠ (c :: s).length := fun e => by
      rw [List.all_eq_true.mpr (List.countP_eq_length.mp e)] at ha; cases ha
    rw [bM_f (b := ((((c :: s).countP s_DIGIT_LETTERS.contains : Nat) : Int) == ((c :: s).length : Nat))) (beq_eq_false_iff_ne.mpr fun e => hn (Int.ofNat_inj.mp e)), z, z, Bool.and_false]; rfl
  | true =>
    rw [List.countP_eq_length.mpr (List.all_eq_true.mp ha), beq_self_eq_true, Bool.and_true, decide_eq_true (show (0 : Int) < ((c :: s).length : Nat) from Int.ofNat_lt.mpr (Nat.succ_pos _))]
    show bM (decide ((((c :: s).length : Nat) : Int) < 16)) (bM (!([c] == [48])) (rI ((3 : Nat) : Int)) (bM ((((c :: s).length : Nat) : Int) == ((1 : Nat) : Int)) (rI ((3 : Nat) : Int)) (rI ((4 : Nat) : Int)))) (rI ((4 : Nat) : Int)) = _
    rw [show ((((c :: s).length : Nat) : Int) == ((1 : Nat) : Int)) = s.isEmpty by cases s <;> rfl, show ((c :: s) == [48]) = ([c] == [48] && s.isEmpty) by cases s <;> cases h : ([c] == [48]) <;> simp_all,
      show decide ((((c :: s).length : Nat) : Int) < 16) = !decide ((((c :: s).length : Nat) : Int) > 15) by rw [← decide_not]; exact decide_eq_decide.mpr (by omega)]
    cases decide ((((c :: s).length : Nat) : Int) > 15) <;> cases ([c] == [48]) <;> cases s.isEmpty <;> rfl
theorem kind_loop {s : List Nat} {H : Hp} (hz : s.length ≤ SZ) {l0 : Bool} : ∃ w, forN (.inr 3) (.str s) (execSs T62 n_law_kind_L4b) FUEL 0 [.str s, .bool l0, .int ((0 : Nat) : Int), .undef] H = some ((.next, [.str s, .bool (l0 && s.all s_LAW64.contains), .int (s.countP s_DIGIT_LETTERS.contains : Nat), w]), H) := by
  obtain ⟨σ', H', e, ⟨l, d, w, rfl, rfl, hl, hd⟩⟩ := for_run (T := T62) (o := .str s) (vs := chars s) (t := .inr 3) (b := n_law_kind_L4b)
    (I := fun n σ G => ∃ (l : Bool) (d : Nat) (w : V), σ = [.str s, .bool l, .int (d : Int), w] ∧ G = H ∧ (l && (s.drop n).all s_LAW64.contains) = (l0 && s.all s_LAW64.contains) ∧ d + (s.drop n).countP s_DIGIT_LETTERS.contains = s.countP s_DIGIT_LETTERS.contains)
    (fun n σ G z' => item_chars)
    (fun n v σ G ⟨l, d, w, hσ, hG, hl, hd⟩ hv => by
      subst hσ hG
      rw [List.getElem?_map] at hv
      obtain ⟨c, hc, rfl⟩ := Option.map_eq_some_iff.mp hv
      obtain ⟨hn, rfl⟩ := List.getElem?_eq_some_iff.mp hc
      rw [List.drop_eq_getElem_cons hn] at hl hd
      refine ⟨_, [.str s, .bool (l && s_LAW64.contains s[n]), .int ((d + (bif s_DIGIT_LETTERS.contains s[n] then 1 else 0) : Nat) : Int), .str [s[n]]], G, rfl, ⟨_, _, _, rfl, rfl, ?_, ?_⟩, fun K B R => ?_⟩
      · rw [← hl, List.all_cons, Bool.and_assoc]
      · rw [← hd, List.countP_cons]; cases s_DIGIT_LETTERS.contains s[n] <;> simp only [cond_true, cond_false, if_true, Bool.false_eq_true, if_false] <;> omega
      · generalize s[n] = c
        refine (show _ = bM l (bM (s_DIGIT_LETTERS.contains c) (K [.str s, .bool (s_LAW64.contains c), .int ((d + 1 : Nat) : Int), .str [c]]) (K [.str s, .bool (s_LAW64.contains c), .int ((d + 0 : Nat) : Int), .str [c]])) (bM (s_DIGIT_LETTERS.contains c) (K [.str s, .bool l, .int ((d + 1 : Nat) : Int), .str [c]]) (K [.str s, .bool l, .int ((d + 0 : Nat) : Int), .str [c]])) G by kernel_rfl).trans ?_
        cases l <;> cases s_DIGIT_LETTERS.contains c <;> rfl)
    FUEL 0 [.str s, .bool l0, .int ((0 : Nat) : Int), .undef] H ⟨l0, 0, .undef, rfl, rfl, rfl, Nat.zero_add _⟩ (Nat.zero_le _) (by rw [List.length_map, Nat.zero_add]; exact Nat.lt_of_le_of_lt hz (by decide))
  rw [List.length_map, List.drop_length] at hl hd
  rw [List.all_nil, Bool.and_true] at hl
  subst hl
  exact ⟨w, by rw [e, ← hd]; rfl⟩
theorem kind_ok {s : List Nat} {H : Hp} (hz : s.length ≤ SZ) : f_law_kind [.str s] H = some (.int (kindN s : Nat), H) := by
  obtain ⟨w, hl⟩ := kind_loop (H := H) hz (l0 := decide ((s.length : Int) > 0))
  refine runK_le H _ ((show _ = bnd (forN (.inr 3) (.str s) (execSs T62 n_law_kind_L4b) FUEL 0 [.str s, .bool (decide ((s.length : Int) > 0)), .int ((0 : Nat) : Int), .undef]) (endK T62 n_law_kind_T6) H by kernel_rfl).trans ((bnd_of hl).trans ?_))
  cases s with
  | nil => kernel_rfl
  | cons c s =>
    rw [decide_eq_true (show ((c :: s).length : Int) > 0 from Int.ofNat_lt.mpr (Nat.succ_pos _)), Bool.true_and]
    have hi : idxV (.str (c :: s)) (.int ((0 : Nat) : Int)) H = some (.str [c], H) := by rw [idx_str (n := 0) rfl]; rfl
    let D := (c :: s).countP s_DIGIT_LETTERS.contains
    let X : M V := bnd (idxV (.str (c :: s)) (.int ((0 : Nat) : Int))) fun v => hB (cmpB .NotEq v (.str [48])) fun r => bM r (rI ((3 : Nat) : Int)) (bM ((D : Int) == ((1 : Nat) : Int)) (rI ((3 : Nat) : Int)) (rI ((4 : Nat) : Int)))
    have hX : X H = bM (!([c] == [48])) (rI ((3 : Nat) : Int)) (bM ((D : Int) == ((1 : Nat) : Int)) (rI ((3 : Nat) : Int)) (rI ((4 : Nat) : Int))) H := (bnd_of hi).trans (by kernel_rfl)
    let rest : M V := bM (decide ((0 : Int) < D)) (bM (decide ((D : Int) < 16)) (bM ((D : Int) == ((c :: s).length : Nat)) X (rI ((4 : Nat) : Int))) (rI ((4 : Nat) : Int))) (rI ((4 : Nat) : Int))
    have hr : rest H = kindR c s D H := by
      show bM (decide ((0 : Int) < D)) (bM (decide ((D : Int) < 16)) (bM ((D : Int) == ((c :: s).length : Nat)) _ (rI ((4 : Nat) : Int))) (rI ((4 : Nat) : Int))) (rI ((4 : Nat) : Int)) H = _
      unfold kindR
      cases decide ((0 : Int) < D) <;> cases decide ((D : Int) < 16) <;> cases ((D : Int) == ((c :: s).length : Nat)) <;> first | rfl | exact hX
    let Y : M V := bnd (idxV (.str (c :: s)) (.int ((0 : Nat) : Int))) fun v => hB (cmpB .NotIn v (.str s_DIGIT_LETTERS)) fun r => bM r (bnd (f_law_reserved []) fun v => hB (cmpB .In (.str (c :: s)) v) fun r => bM r (rI ((2 : Nat) : Int)) (rI ((1 : Nat) : Int))) rest
    have hY : Y H = bM (!s_DIGIT_LETTERS.contains c) (bM (isRes (c :: s)) (rI ((2 : Nat) : Int)) (rI ((1 : Nat) : Int))) rest H := by
      refine (bnd_of hi).trans ?_
      show bM (!s_DIGIT_LETTERS.contains c) _ rest H = _
      cases s_DIGIT_LETTERS.contains c with
      | true => rfl
      | false =>
        show bnd (f_law_reserved []) (fun v => hB (cmpB .In (.str (c :: s)) v) fun r => bM r (rI ((2 : Nat) : Int)) (rI ((1 : Nat) : Int))) H = _
        exact (bnd_of reserved_ok).trans ((hB_of res_in).trans rfl)
    refine (show _ = bM ((c :: s).all s_LAW64.contains) Y rest H by kernel_rfl).trans ?_
    have hs : standsB (c :: s) = (!s_DIGIT_LETTERS.contains c && (c :: s).all s_LAW64.contains) := by
      rw [show s_LAW64.contains = wl from funext wl64]; rfl
    unfold kindN
    rw [hs]
    cases (c :: s).all s_LAW64.contains with
    | false => exact hr.trans (by rw [kind_rest, Bool.and_false]; rfl)
    | true =>
      refine hY.trans ?_
      cases s_DIGIT_LETTERS.contains c with
      | true => exact hr.trans (by rw [kind_rest]; rfl)
      | false => cases isRes (c :: s) <;> rfl
noncomputable def T63 : Tab := extT T62 854 f_law_kind
end

section

theorem dig_find {c : Nat} (h : s_DIGIT_LETTERS.contains c = true) : findIx c s_DIGIT_LETTERS 0 = (dvN c : Nat) ∧ dvN c ≤ 9 := by
  have := List.all_eq_true.mp (show s_DIGIT_LETTERS.all (fun c => decide (findIx c s_DIGIT_LETTERS 0 = (dvN c : Nat) ∧ dvN c ≤ 9)) = true by decide +kernel) c (List.contains_iff_mem.mp h)
  exact of_decide_eq_true this
noncomputable def f_law_number : Fn := runF T63 3 1 n_law_number
theorem number_ok {s : List Nat} {H : Hp} (ha : s.all s_DIGIT_LETTERS.contains = true) (hz : s.length ≤ 15) : f_law_number [.str s] H = some (.int (numV s 0 : Nat), H) := by
  obtain ⟨σ', H', e, ⟨a, w, rfl, rfl, hn, _⟩⟩ := for_run (T := T63) (o := .str s) (vs := chars s) (t := .inr 2) (b := n_law_number_L2b)
    (I := fun n σ G => ∃ (a : Nat) (w : V), σ = [.str s, .int (a : Int), w] ∧ G = H ∧ numV (s.drop n) a = numV s 0 ∧ a < 10 ^ n)
    (fun n σ G z' => item_chars)
    (fun n v σ G ⟨a, w, hσ, hG, hv', hb⟩ hv => by
      subst hσ hG
      rw [List.getElem?_map] at hv
      obtain ⟨c, hc, rfl⟩ := Option.map_eq_some_iff.mp hv
      obtain ⟨hn, rfl⟩ := List.getElem?_eq_some_iff.mp hc
      rw [List.drop_eq_getElem_cons hn] at hv'
      obtain ⟨hf, h9⟩ := dig_find (List.all_eq_true.mp ha _ (List.getElem_mem hn))
      have h15 : a ≤ 4000000000000000000 := Nat.le_trans (Nat.le_of_lt (Nat.lt_of_lt_of_le hb (Nat.pow_le_pow_right (by decide) (Nat.le_trans (Nat.le_of_lt hn) hz)))) (by decide)
      refine ⟨_, [.str s, .int ((a * 10 + dvN s[n] : Nat) : Int), .str [s[n]]], G, rfl, ⟨_, _, rfl, rfl, hv', by rw [Nat.pow_succ]; omega⟩, fun K B R => ?_⟩
      generalize s[n] = c at hf
      refine (show _ = bnd (binV .Mult (.int a) (.int ((10 : Nat) : Int))) (fun v => bnd (binV .Add v (.int (findIx c s_DIGIT_LETTERS 0))) fun v => K [.str s, v, .str [c]]) G by kernel_rfl).trans ?_
      refine (bnd_of (show binV .Mult (.int a) (.int ((10 : Nat) : Int)) G = some (.int ((a * 10 : Nat) : Int), G) from gd_H (by rw [show smallI (a : Int) = true from Nat.ble_eq_true_of_le h15]; rfl))).trans ?_
      rw [hf]; rfl)
    FUEL 0 [.str s, .int ((0 : Nat) : Int), .undef] H ⟨0, .undef, rfl, rfl, rfl, by decide⟩ (Nat.zero_le _) (by rw [List.length_map, Nat.zero_add]; exact Nat.lt_of_le_of_lt hz (by decide))
  rw [List.length_map, List.drop_length] at hn
  refine runK_le H' _ ((show _ = bnd (forN (.inr 2) (.str s) (execSs T63 n_law_number_L2b) FUEL 0 [.str s, .int ((0 : Nat) : Int), .undef]) (endK T63 n_law_number_T3) H' by kernel_rfl).trans ((bnd_of e).trans ?_))
  rw [← hn]; rfl
noncomputable def T64 : Tab := extT T63 861 f_law_number
noncomputable def f_law_hex : Fn := runF T64 5 2 n_law_hex
noncomputable def T65 : Tab := extT T64 868 f_law_hex
def HexF (x y c : Nat) : Prop := ∀ H : Hp, f_law_hex [.str [x, y], .int ((2 : Nat) : Int)] H = some (.str [c], H)
theorem hexF {x y c : Nat} (h : ∀ H : Hp, runK T64 5 2 n_law_hex [.str [x, y], .int ((2 : Nat) : Int)] H = some (.str [c], H)) : HexF x y c := fun H => runK_le H _ (h H)

noncomputable def f_law_cook : Fn := runF T65 9 2 n_law_cook
noncomputable abbrev ckD : V := .dict [[110], [116], [114], [98], [118], [102], [48]] [.str [10], .str [9], .str [13], .str [8], .str [11], .str [12], .str [0]]
def badC (q c : Nat) (s : List Nat) : Bool := ([q] == [c] || ([10] == [c] || ([13] == [c] || false))) || ([q] == [96] && ([c] == [36] && s.take 1 == [123]))
inductive Ck (q : Nat) : List Nat → List Nat → Prop
  | nil : Ck q [] []
  | plain {c : Nat} {s o : List Nat} : badC q c s = false → ([c] == [92]) = false → Ck q s o → Ck q (c :: s) (c :: o)
  | two {e c : Nat} {s o : List Nat} : (e = 92 ∧ c = 92 ∨ e = 110 ∧ c = 10 ∨ e = 116 ∧ c = 9 ∨ e = 114 ∧ c = 13 ∨ e = 34 ∧ c = 34) → Ck q s o → Ck q (92 :: e :: s) (c :: o)
  | hex {x y c : Nat} {s o : List Nat} : HexF x y c → Ck q s o → Ck q (92 :: 120 :: x :: y :: s) (c :: o)
section
variable {t s out : List Nat} {q c n : Nat} {H : Hp} {w5 w6 w7 w8 : V} {K B : List V → Ms} {R : V → List V → Ms}
theorem ck_turn (h : t.drop n = c :: s) : execKs T65 n_law_cook_L12b [.str t, .str [q], ckD, .str out, .int n, w5, w6, w7, w8] K B R H =
    bM (badC q c s) (R .none [.str t, .str [q], ckD, .str out, .int n, .str [c], .str (s.take 1), w7, w8]) (execKs T65 (tlN (tlN (tlN n_law_cook_L12b))) [.str t, .str [q], ckD, .str out, .int n, .str [c], .str (s.take 1), w7, w8] K B R) H := by
  refine (show _ = bnd (idxV (.str t) (.int n)) (fun v => bnd (slcV (.str t) (.int ((n + 1 : Nat) : Int)) (.int ((n + 2 : Nat) : Int))) fun v2 => execKs T65 (tlN (tlN n_law_cook_L12b)) [.str t, .str [q], ckD, .str out, .int n, v, v2, w7, w8] K B R) H by kernel_rfl).trans ?_
  rw [idx_str h, slc_str, show n + 2 - (n + 1) = 1 by omega, drop_succ h]
  unfold badC
  rw [bM_or, bM_and, bM_and]
  kernel_rfl
theorem ck_add {a b : List Nat} {D : V → Ms} (hz : a.length + b.length ≤ SZ) : bnd (addV (.str a) (.str b)) D H = D (.str (a ++ b)) H := bnd_of ((orM_none rfl).trans (orM_of (gd_H hz)))
theorem ck_rest (h : ([c] == [92]) = false) (hz : out.length + 1 ≤ SZ) {v : V} : execKs T65 (tlN (tlN (tlN n_law_cook_L12b))) [.str t, .str [q], ckD, .str out, .int n, .str [c], .str (s.take 1), w7, w8] K B R H = K [.str t, .str [q], ckD, .str (out ++ [c]), .int ((n + 1 : Nat) : Int), .str [c], .str (s.take 1), w7, w8] H := by
  refine (show _ = bM (!([c] == [92])) (bnd (addV (.str out) (.str [c])) fun v => K [.str t, .str [q], ckD, v, .int ((n + 1 : Nat) : Int), .str [c], .str (s.take 1), w7, w8]) (execKs T65 n_law_cook_B11 [.str t, .str [q], ckD, .str out, .int n, .str [c], .str (s.take 1), w7, w8] K B R) H by kernel_rfl).trans ?_
  rw [h]
  exact ck_add (a := out) (b := [c]) (D := fun v => K [.str t, .str [q], ckD, v, .int ((n + 1 : Nat) : Int), .str [c], .str (s.take 1), w7, w8]) hz
theorem ck_two {e : Nat} (h : e = 92 ∧ c = 92 ∨ e = 110 ∧ c = 10 ∨ e = 116 ∧ c = 9 ∨ e = 114 ∧ c = 13 ∨ e = 34 ∧ c = 34) (hz : out.length + 1 ≤ SZ) : execKs T65 (tlN (tlN (tlN n_law_cook_L12b))) [.str t, .str [q], ckD, .str out, .int n, .str [92], .str [e], w7, w8] K B R H = K [.str t, .str [q], ckD, .str (out ++ [c]), .int ((n + 2 : Nat) : Int), .str [92], .str [e], w7, w8] H := by
  refine Eq.trans ?_ (ck_add (a := out) (b := [c]) (D := fun v => K [.str t, .str [q], ckD, v, .int ((n + 2 : Nat) : Int), .str [92], .str [e], w7, w8]) hz)
  rcases h with ⟨rfl, rfl⟩ | ⟨rfl, rfl⟩ | ⟨rfl, rfl⟩ | ⟨rfl, rfl⟩ | ⟨rfl, rfl⟩ <;> kernel_rfl
theorem ck_hex {x y : Nat} {s : List Nat} (hx : HexF x y c) (h : t.drop n = 92 :: 120 :: x :: y :: s) (hz : out.length + 1 ≤ SZ) : execKs T65 (tlN (tlN (tlN n_law_cook_L12b))) [.str t, .str [q], ckD, .str out, .int n, .str [92], .str [120], w7, w8] K B R H = K [.str t, .str [q], ckD, .str (out ++ [c]), .int ((n + 4 : Nat) : Int), .str [92], .str [120], .int ((2 : Nat) : Int), .str [c]] H := by
  refine (show _ = bnd (slcV (.str t) (.int ((n + 2 : Nat) : Int)) (.int ((n + 4 : Nat) : Int))) (fun v => bnd (f_law_hex [v, .int ((2 : Nat) : Int)]) fun v => execKs T65 (tlN (tlN n_law_cook_B6)) [.str t, .str [q], ckD, .str out, .int n, .str [92], .str [120], .int ((2 : Nat) : Int), v] K B R) H by kernel_rfl).trans ?_
  rw [slc_str, show n + 4 - (n + 2) = 2 by omega, drop_succ (drop_succ h)]
  show bnd (f_law_hex [.str [x, y], .int ((2 : Nat) : Int)]) (fun v => execKs T65 (tlN (tlN n_law_cook_B6)) [.str t, .str [q], ckD, .str out, .int n, .str [92], .str [120], .int ((2 : Nat) : Int), v] K B R) H = _
  refine (bnd_of (hx H)).trans (Eq.trans ?_ (ck_add (a := out) (b := [c]) (D := fun v => K [.str t, .str [q], ckD, v, .int ((n + 4 : Nat) : Int), .str [92], .str [120], .int ((2 : Nat) : Int), .str [c]]) hz))
  kernel_rfl
end
theorem ck_loop {q : Nat} {t : List Nat} {H : Hp} (hq : badC q 92 [] = false) {s o : List Nat} (h : Ck q s o) : ∀ (n k : Nat) (out : List Nat) (w5 w6 w7 w8 : V), t.drop n = s → s.length < k → out.length + o.length ≤ SZ →
    ∃ z, whileN (evalB T65 n_law_cook_L12c) (execSs T65 n_law_cook_L12b) k [.str t, .str [q], ckD, .str out, .int n, w5, w6, w7, w8] H = some ((.next, .str t :: .str [q] :: ckD :: .str (out ++ o) :: z), H) := by
  have hb : ∀ {s : List Nat}, badC q 92 s = false := fun {s} => by
    unfold badC at hq ⊢
    rw [show ([92] == [36]) = false from rfl, Bool.false_and, Bool.and_false, Bool.or_false] at hq ⊢
    exact hq
  have go : ∀ {n k : Nat} {out : List Nat} {w5 w6 w7 w8 : V} {c : Nat} {s : List Nat} {p : (Fl × List V) × Hp}, t.drop n = c :: s → badC q c s = false →
      execKs T65 (tlN (tlN (tlN n_law_cook_L12b))) [.str t, .str [q], ckD, .str out, .int n, .str [c], .str (s.take 1), w7, w8] (whileN (evalB T65 n_law_cook_L12c) (execSs T65 n_law_cook_L12b) k) (fun σ => ret (.next, σ)) (fun v σ => ret (.rtn v, σ)) H = some p →
      whileN (evalB T65 n_law_cook_L12c) (execSs T65 n_law_cook_L12b) (k + 1) [.str t, .str [q], ckD, .str out, .int n, w5, w6, w7, w8] H = some p := fun {n k out w5 w6 w7 w8 c s p} h hc e => by
    refine while_le H _ ((show _ = bM (decide ((n : Int) < (t.length : Int))) (execKs T65 n_law_cook_L12b [.str t, .str [q], ckD, .str out, .int n, w5, w6, w7, w8] (whileN (evalB T65 n_law_cook_L12c) (execSs T65 n_law_cook_L12b) k) (fun σ => ret (.next, σ)) (fun v σ => ret (.rtn v, σ))) (ret (.next, [.str t, .str [q], ckD, .str out, .int n, w5, w6, w7, w8])) H by kernel_rfl).trans ?_)
    rw [lt_dec h]
    refine (ck_turn h).trans ?_
    rw [hc]; exact e
  induction h with
  | nil =>
    intro n k out w5 w6 w7 w8 h hk hz
    match k, hk with
    | k + 1, _ =>
      refine ⟨[.int n, w5, w6, w7, w8], while_le H _ ((show _ = bM (decide ((n : Int) < (t.length : Int))) (execKs T65 n_law_cook_L12b [.str t, .str [q], ckD, .str out, .int n, w5, w6, w7, w8] (whileN (evalB T65 n_law_cook_L12c) (execSs T65 n_law_cook_L12b) k) (fun σ => ret (.next, σ)) (fun v σ => ret (.rtn v, σ))) (ret (.next, [.str t, .str [q], ckD, .str out, .int n, w5, w6, w7, w8])) H by kernel_rfl).trans ?_)⟩
      rw [lt_end h, List.append_nil]; rfl
  | @plain c s o hc h9 _ ih =>
    intro n k out w5 w6 w7 w8 h hk hz
    match k, hk with
    | k + 1, hk =>
      rw [List.length_cons, Nat.add_comm o.length, ← Nat.add_assoc] at hz
      obtain ⟨z, e⟩ := ih (n + 1) k (out ++ [c]) (.str [c]) (.str (s.take 1)) w7 w8 (drop_succ h) (Nat.lt_of_succ_lt_succ hk) (by rw [List.length_append]; exact hz)
      exact ⟨z, go h hc ((ck_rest h9 (Nat.le_trans (Nat.le_add_right _ _) hz) (v := .none)).trans (e.trans (by rw [List.append_assoc]; rfl)))⟩
  | @two e' c s o he _ ih =>
    intro n k out w5 w6 w7 w8 h hk hz
    match k, hk with
    | k + 1, hk =>
      rw [List.length_cons, Nat.add_comm o.length, ← Nat.add_assoc] at hz
      obtain ⟨z, e⟩ := ih (n + 2) k (out ++ [c]) (.str [92]) (.str [e']) w7 w8 (drop_succ (drop_succ h)) (Nat.lt_of_succ_lt (Nat.lt_of_succ_lt_succ hk)) (by rw [List.length_append]; exact hz)
      exact ⟨z, go h hb ((ck_two he (Nat.le_trans (Nat.le_add_right _ _) hz)).trans (e.trans (by rw [List.append_assoc]; rfl)))⟩
  | @hex x y c s o hx _ ih =>
    intro n k out w5 w6 w7 w8 h hk hz
    match k, hk with
    | k + 1, hk =>
      rw [List.length_cons, Nat.add_comm o.length, ← Nat.add_assoc] at hz
      obtain ⟨z, e⟩ := ih (n + 4) k (out ++ [c]) (.str [92]) (.str [120]) (.int ((2 : Nat) : Int)) (.str [c]) (drop_succ (drop_succ (drop_succ (drop_succ h)))) (Nat.lt_of_succ_lt (Nat.lt_of_succ_lt (Nat.lt_of_succ_lt (Nat.lt_of_succ_lt_succ hk)))) (by rw [List.length_append]; exact hz)
      exact ⟨z, go h hb ((ck_hex hx h (Nat.le_trans (Nat.le_add_right _ _) hz)).trans (e.trans (by rw [List.append_assoc]; rfl)))⟩
theorem cook_ok {q : Nat} {t o : List Nat} {H : Hp} (hq : badC q 92 [] = false) (h : Ck q t o) (hz : t.length < FUEL) (ho : o.length ≤ SZ) : f_law_cook [.str t, .str [q]] H = some (.str o, H) := by
  obtain ⟨z, e⟩ := ck_loop (H := H) hq h 0 FUEL [] .undef .undef .undef .undef rfl hz (by rw [List.length_nil, Nat.zero_add]; exact ho)
  exact runK_le H _ ((show _ = bnd (whileN (evalB T65 n_law_cook_L12c) (execSs T65 n_law_cook_L12b) FUEL [.str t, .str [q], ckD, .str [], .int ((0 : Nat) : Int), .undef, .undef, .undef, .undef]) (endK T65 n_law_cook_T13) H by kernel_rfl).trans ((bnd_of e).trans rfl))
noncomputable def T66 : Tab := extT T65 875 f_law_cook
end

section

section
variable {H : Hp} {l : List O} {x : O}
theorem ap_get {i : Nat} (h : l[i]? = some x) : (H ++ l)[H.length + i]? = some x := by rw [List.getElem?_append_right (Nat.le_add_right _ _), Nat.add_sub_cancel_left]; exact h
theorem ap_old {i : Nat} (h : H[i]? = some x) : (H ++ l)[i]? = some x := by rw [List.getElem?_append_left (List.getElem?_eq_some_iff.mp h).1]; exact h
theorem ap_set {i : Nat} {y : O} : (H ++ l).set (H.length + i) y = H ++ l.set i y := by rw [List.set_append_right _ _ (Nat.le_add_right _ _), Nat.add_sub_cancel_left]
theorem new_ap {vs : List V} : newL vs (H ++ l) = some (.ref (H.length + l.length), H ++ (l ++ [.list vs])) := by rw [new_at (L := H.length + l.length) List.length_append, List.append_assoc]
theorem comp_ap {T : Tab} {o : V} {vs : List V} {elt c it : N} {σ : List V} {f : V → Option V} (hi : evalE T it σ (H ++ l) = some (o, H ++ l)) (hz : vs.length ≤ SZ) (hit : ∀ x n, itemAt o n ((H ++ l) ++ [x]) = some vs[n]?)
    (turn : ∀ v ∈ vs, ∀ x (K : M Unit), testK T c [v] (evalK T elt [v] fun y => bnd (bmeth (.ref (H ++ l).length) 0 [y]) fun z' => K) K ((H ++ l) ++ [x]) = match f v with
      | none => K ((H ++ l) ++ [x])
      | some y => bnd (bmeth (.ref (H ++ l).length) 0 [y]) (fun z' => K) ((H ++ l) ++ [x])) :
    evalE T (.comp elt c it) σ (H ++ l) = some (.ref (H.length + l.length), H ++ (l ++ [.list (vs.filterMap f)])) := by
  rw [comp_ok hi hz hit turn, List.append_assoc, List.length_append]
theorem item_ref {G : Hp} {o n : Nat} {vs : List V} (h : G[o]? = some (.list vs)) : itemAt (.ref o) n G = some vs[n]? := by
  show (G[o]?.bind listO).map (fun vs => vs[n]?) = _
  rw [h]; rfl
end

abbrev Row := Nat × List Nat × Nat × Nat
noncomputable abbrev rowV (r : Row) : V := .tup [.int (r.1 : Nat), .str r.2.1, .int (r.2.2.1 : Nat), .int (r.2.2.2 : Nat)]
inductive Toks (z : Nat) : List Row → List V → Prop
  | nil {l : Bool} : Toks z [] [tok 0 [] 0 z z l]
  | cons {k n a e : Nat} {x : List Nat} {l : Bool} {rows : List Row} {out : List V} : (((k : Int) == 3) = true → n = numV x 0 ∧ x.all s_DIGIT_LETTERS.contains = true ∧ x.length ≤ 15) → x.length ≤ SZ → Toks z rows out → Toks z ((k, x, a, e) :: rows) (tok k x n a e l :: out)
noncomputable def tellsOf : List Row → List V
  | [] => []
  | r :: rows => tellIf (farB r.2.1) r.2.2.1 ++ tellsOf rows
noncomputable def nth (v : V) (i : Nat) : V := ((objO v).bind fun p => p.2[i]?).getD .none
noncomputable def tokRow (v : V) : Option V := some (.tup [nth v 0, nth v 1, nth v 3, nth v 4])
noncomputable def tellRow (v : V) : Option V := some (.tup [nth v 0, nth v 1])
noncomputable def farRow (v : V) : Option V := (tupO v).bind fun l => (l[1]?.bind strO).bind fun x => bif farB x then some (.tup [.int ((1127 : Nat) : Int), l[2]?.getD .none]) else none
section
variable {z : Nat} {rows : List Row} {out : List V}
theorem toks_rows (h : Toks z rows out) : out.filterMap tokRow = rows.map rowV ++ [rowV (0, [], z, z)] := by
  induction h with
  | nil => rfl
  | @cons k n a e x l rows out h _ _ ih => exact (List.filterMap_cons_some (f := tokRow) (b := rowV (k, x, a, e)) rfl).trans (congrArg (List.cons (rowV (k, x, a, e))) ih)
theorem toks_mem (h : Toks z rows out) {v : V} (hv : v ∈ out) : ∃ (k n a e : Nat) (x : List Nat) (l : Bool), v = tok k x n a e l ∧ (((k : Int) == 3) = true → n = numV x 0 ∧ x.all s_DIGIT_LETTERS.contains = true ∧ x.length ≤ 15) := by
  induction h with
  | nil => cases List.mem_singleton.mp hv; exact ⟨_, _, _, _, _, _, rfl, fun h => nomatch h⟩
  | cons h _ _ ih =>
    rcases List.mem_cons.mp hv with rfl | hv
    · exact ⟨_, _, _, _, _, _, rfl, h⟩
    · exact ih hv
theorem toks_len (h : Toks z rows out) : out.length = rows.length + 1 := by
  induction h with
  | nil => rfl
  | cons _ _ _ ih => exact congrArg (· + 1) ih
theorem toks_x (h : Toks z rows out) {r : Row} (hr : r ∈ rows) : r.2.1.length ≤ SZ := by
  induction h with
  | nil => cases hr
  | cons _ hx _ ih =>
    rcases List.mem_cons.mp hr with rfl | hr
    · exact hx
    · exact ih hr
theorem tell_mem : ∀ {rows : List Row} {v : V}, v ∈ tellsOf rows → ∃ a, v = told 1127 a [.str [92]]
  | [], v, h => by cases h
  | r :: rows, v, h => by
    rcases List.mem_append.mp h with h | h
    · unfold tellIf at h
      cases hf : farB r.2.1 with
      | true => rw [hf] at h; exact ⟨_, List.mem_singleton.mp h⟩
      | false => rw [hf] at h; cases h
    · exact tell_mem h
theorem tell_far : ∀ rows : List Row, (tellsOf rows).filterMap tellRow = (rows.map rowV).filterMap farRow
  | [] => rfl
  | r :: rows => by
    show (tellIf (farB r.2.1) r.2.2.1 ++ tellsOf rows).filterMap tellRow = (rowV r :: rows.map rowV).filterMap farRow
    rw [List.filterMap_append, tell_far rows, List.filterMap_cons, show farRow (rowV r) = bif farB r.2.1 then some (V.tup [.int ((1127 : Nat) : Int), .int (r.2.2.1 : Nat)]) else none by kernel_rfl]
    cases farB r.2.1 <;> rfl
theorem tell_len : ∀ rows : List Row, (tellsOf rows).length ≤ rows.length
  | [] => Nat.le_refl _
  | r :: rows => by
    show (tellIf (farB r.2.1) r.2.2.1 ++ tellsOf rows).length ≤ _
    have := tell_len rows
    rw [List.length_append]
    unfold tellIf
    cases farB r.2.1
    · exact Nat.le_trans (Nat.le_of_eq (Nat.zero_add _)) (Nat.le_succ_of_le this)
    · exact Nat.le_trans (Nat.le_of_eq (Nat.add_comm _ _)) (Nat.succ_le_succ this)
theorem eqVs_same {P : V → Prop} (hp : ∀ v, P v → (eqV v v).getD false = true) : ∀ {vs : List V}, (∀ v ∈ vs, P v) → eqVs vs vs = true
  | [], _ => rfl
  | v :: vs, h => by
    show ((eqV v v).getD false && eqVs vs vs) = true
    rw [hp v (h v List.mem_cons_self), eqVs_same hp fun v hv => h v (List.mem_cons_of_mem _ hv)]; rfl
theorem eq_row (r : Row) : (eqV (rowV r) (rowV r)).getD false = true := by
  have e : eqV (rowV r) (rowV r) = oO (sure ((r.1 : Int) == r.1 && (r.2.1 == r.2.1 && ((r.2.2.1 : Int) == r.2.2.1 && ((r.2.2.2 : Int) == r.2.2.2 && true))))) none := by kernel_rfl
  rw [e, beq_self_eq_true, beq_self_eq_true, beq_self_eq_true, beq_self_eq_true]; rfl
theorem eq_far {v : V} (h : ∃ a : Nat, v = .tup [.int ((1127 : Nat) : Int), .int a]) : (eqV v v).getD false = true := by
  obtain ⟨a, rfl⟩ := h
  have e : eqV (.tup [.int ((1127 : Nat) : Int), .int a]) (.tup [.int ((1127 : Nat) : Int), .int a]) = oO (sure (true && ((a : Int) == a && true))) none := by kernel_rfl
  rw [e, beq_self_eq_true]; rfl
theorem ne_lists {G : Hp} {a b : Nat} {vs : List V} (ha : G[a]? = some (.list vs)) (hb : G[b]? = some (.list vs)) (h : eqVs vs vs = true) : cmpB .NotEq (.ref a) (.ref b) G = some false := by
  show (oO (on2 (lst (.ref a) G) (lst (.ref b) G) fun x y => sure (eqVs x.2 y.2)) _).map (!·) = _
  rw [lst_ref ha, lst_ref hb]
  show (oO (sure (eqVs vs vs)) _).map (!·) = _
  rw [h]; rfl
theorem add_lists {G : Hp} {a b : Nat} {vs ws : List V} (ha : G[a]? = some (.list vs)) (hb : G[b]? = some (.list ws)) (hz : vs.length + ws.length ≤ SZ) : addV (.ref a) (.ref b) G = newL (vs ++ ws) G :=
  (orM_none rfl).trans ((orM_none rfl).trans ((orM_none rfl).trans ((hB_of (lst_ref ha)).trans ((hB_of (lst_ref hb)).trans (gd_H hz)))))
end

noncomputable def f_law_same : Fn := runF T66 8 2 n_law_same
theorem same_loop {rows : List Row} {out : List V} {z w o : Nat} {t : List Nat} {d v5 v6 v7 : V} {G : Hp} (ht : Toks z rows out) (ho : G[o]? = some (.list out)) (hz : out.length < FUEL) : ∃ u, forN (.inr 4) (.ref o) (execSs T66 n_law_same_L5b) FUEL 0 [.str t, .ref w, d, .ref o, .undef, v5, v6, v7] G = some ((.next, [.str t, .ref w, d, .ref o, u, v5, v6, v7]), G) := by
  obtain ⟨σ', G', e, ⟨u, rfl, rfl⟩⟩ := for_run (T := T66) (o := .ref o) (vs := out) (t := .inr 4) (b := n_law_same_L5b)
    (I := fun n σ G' => ∃ u, σ = [.str t, .ref w, d, .ref o, u, v5, v6, v7] ∧ G' = G)
    (fun n σ G' ⟨u, _, h⟩ => by rw [h]; exact item_ref ho)
    (fun n v σ G' ⟨u, hσ, hG⟩ hv => by
      subst hσ hG
      obtain ⟨k, m, a, e, x, l, rfl, hn⟩ := toks_mem ht (List.mem_of_getElem? hv)
      refine ⟨_, _, G', rfl, ⟨tok k x m a e l, rfl, rfl⟩, fun K B R => ?_⟩
      refine (show _ = bM ((k : Int) == 3) (bnd (f_law_number [.str x]) fun v => hB (cmpB .NotEq (.int m) v) fun r => bM r (execKs T66 (.cons (.rtn (.list .nil)) .nil) [.str t, .ref w, d, .ref o, tok k x m a e l, v5, v6, v7] K B R) (K [.str t, .ref w, d, .ref o, tok k x m a e l, v5, v6, v7])) (K [.str t, .ref w, d, .ref o, tok k x m a e l, v5, v6, v7]) G' by kernel_rfl).trans ?_
      cases hk : ((k : Int) == 3) with
      | false => rfl
      | true =>
        obtain ⟨rfl, h1, h2⟩ := hn hk
        refine (show _ = bnd (f_law_number [.str x]) (fun v => hB (cmpB .NotEq (.int (numV x 0 : Nat)) v) fun r => bM r (execKs T66 (.cons (.rtn (.list .nil)) .nil) [.str t, .ref w, d, .ref o, tok k x (numV x 0) a e l, v5, v6, v7] K B R) (K [.str t, .ref w, d, .ref o, tok k x (numV x 0) a e l, v5, v6, v7])) G' from rfl).trans ((bnd_of (number_ok h1 h2)).trans ?_)
        refine (show _ = bM (!((numV x 0 : Int) == (numV x 0 : Nat))) (execKs T66 (.cons (.rtn (.list .nil)) .nil) [.str t, .ref w, d, .ref o, tok k x (numV x 0) a e l, v5, v6, v7] K B R) (K [.str t, .ref w, d, .ref o, tok k x (numV x 0) a e l, v5, v6, v7]) G' from rfl).trans ?_
        rw [beq_self_eq_true]; rfl)
    FUEL 0 [.str t, .ref w, d, .ref o, .undef, v5, v6, v7] G ⟨.undef, rfl, rfl⟩ (Nat.zero_le _) (by rw [Nat.zero_add]; exact hz)
  exact ⟨u, e⟩
theorem all_row {rows : List Row} {z : Nat} : eqVs (rows.map rowV ++ [rowV (0, [], z, z)]) (rows.map rowV ++ [rowV (0, [], z, z)]) = true :=
  eqVs_same (P := fun v => ∃ r, v = rowV r) (fun v ⟨r, h⟩ => h ▸ eq_row r) fun v hv => by
    rcases List.mem_append.mp hv with h | h
    · obtain ⟨r, _, h⟩ := List.mem_map.mp h; exact ⟨r, h.symm⟩
    · exact ⟨_, List.mem_singleton.mp h⟩
theorem all_far {rows : List Row} : eqVs ((tellsOf rows).filterMap tellRow) ((tellsOf rows).filterMap tellRow) = true :=
  eqVs_same (P := fun v => ∃ a : Nat, v = .tup [.int ((1127 : Nat) : Int), .int a]) (fun v h => eq_far h) fun v hv => by
    obtain ⟨u, hu, h⟩ := List.mem_filterMap.mp hv
    obtain ⟨a, rfl⟩ := tell_mem hu
    exact ⟨a, (Option.some.inj h).symm⟩
theorem same_ok {t : List Nat} {rows : List Row} {out : List V} {w : Nat} {H : Hp} (hx : Lx t 0 [] out (tellsOf rows)) (hk : Toks t.length rows out) (ht : t.length + 2 ≤ SZ) (hw : H[w]? = some (.list (rows.map rowV))) (hz : rows.length + 1 < SZ) :
    ∃ l : List O, f_law_same [.str t, .ref w] H = some (.ref (H.length + 3), H ++ l) ∧ l[3]? = some (.list out) := by
  have ol := toks_len hk
  obtain ⟨s', e⟩ := scan_all_ok (r := H.length) (rows := []) (H := H ++ [.list []]) ht hx get_new (by rw [ol]; exact Nat.le_of_lt hz) (by rw [List.length_nil, Nat.zero_add]; exact Nat.lt_of_le_of_lt (tell_len rows) (Nat.lt_of_succ_lt hz))
  rw [set_new, List.length_append, List.nil_append, Q, List.append_assoc] at e
  have el : ∀ {l : List O} {x : O}, (H ++ l) ++ [x] = H ++ (l ++ [x]) := fun {l x} => List.append_assoc _ _ _
  have c1 := comp_ap (T := T66) (H := H) (l := [.list (tellsOf rows), s', .list [], .list out]) (elt := n_law_same_C2e) (c := n_law_same_C2c) (it := .loc 3) (σ := [.str t, .ref w, dgs H.length, .ref (H.length + 3), .undef, .undef, .undef, .undef]) (f := tokRow) (o := .ref (H.length + 3)) (vs := out) rfl (by rw [ol]; exact Nat.le_of_lt hz)
    (fun x n => item_ref (ap_old (ap_get (i := 3) rfl))) fun v hv x K => by
      obtain ⟨k, n, a, e, x, l, rfl, _⟩ := toks_mem hk hv
      kernel_rfl
  have c2 := comp_ap (T := T66) (H := H) (l := [.list (tellsOf rows), s', .list [], .list out, .list (out.filterMap tokRow)]) (elt := n_law_same_C3e) (c := n_law_same_C3c) (it := .attr (.loc 2) 9) (σ := [.str t, .ref w, dgs H.length, .ref (H.length + 3), .undef, .ref (H.length + 4), .undef, .undef]) (f := tellRow) (o := .ref H.length) (vs := tellsOf rows) (by kernel_rfl) (Nat.le_trans (tell_len rows) (Nat.le_of_lt (Nat.lt_of_succ_lt hz)))
    (fun x n => item_ref (ap_old (ap_get (i := 0) rfl))) fun v hv x K => by
      obtain ⟨a, rfl⟩ := tell_mem hv
      kernel_rfl
  have c3 := comp_ap (T := T66) (H := H) (l := [.list (tellsOf rows), s', .list [], .list out, .list (out.filterMap tokRow), .list ((tellsOf rows).filterMap tellRow)]) (elt := n_law_same_C4e) (c := n_law_same_C4c) (it := .loc 1) (σ := [.str t, .ref w, dgs H.length, .ref (H.length + 3), .undef, .ref (H.length + 4), .ref (H.length + 5), .undef]) (f := farRow) (o := .ref w) (vs := rows.map rowV) rfl (by rw [List.length_map]; exact Nat.le_of_lt (Nat.lt_of_succ_lt hz))
    (fun x n => item_ref (ap_old (ap_old hw))) fun v hv x K => by
      obtain ⟨r, hr, rfl⟩ := List.mem_map.mp hv
      refine (show _ = bnd (f_law_beyond [.str r.2.1]) (fun v => bnd (truthyM v) fun b => bM b (bnd (bmeth (.ref (H ++ [.list (tellsOf rows), s', .list [], .list out, .list (out.filterMap tokRow), .list ((tellsOf rows).filterMap tellRow)]).length) 0 [.tup [.int ((1127 : Nat) : Int), .int (r.2.2.1 : Nat)]]) fun z' => K) K) ((H ++ [.list (tellsOf rows), s', .list [], .list out, .list (out.filterMap tokRow), .list ((tellsOf rows).filterMap tellRow)]) ++ [x]) by kernel_rfl).trans ((bnd_of (beyond_ok (toks_x hk hr))).trans ?_)
      rw [show farRow (rowV r) = bif farB r.2.1 then some (V.tup [.int ((1127 : Nat) : Int), .int (r.2.2.1 : Nat)]) else none by kernel_rfl]
      cases farB r.2.1 <;> rfl
  refine ⟨[.list (tellsOf rows), s', .list [], .list out, .list (out.filterMap tokRow), .list ((tellsOf rows).filterMap tellRow), .list ((rows.map rowV).filterMap farRow), .list [rowV (0, [], t.length, t.length)], .list (rows.map rowV ++ [rowV (0, [], t.length, t.length)])], runK_le H _ ?_, rfl⟩
  refine (show _ = bnd (f_scan_all [.str t, dgs H.length]) (fun v => retK T66 (tlN (tlN n_law_same)) [.str t, .ref w, dgs H.length, v, .undef, .undef, .undef, .undef]) (H ++ [.list []]) by kernel_rfl).trans ((bnd_of e).trans ?_)
  refine (show _ = bnd (evalE T66 (.comp n_law_same_C2e n_law_same_C2c (.loc 3)) [.str t, .ref w, dgs H.length, .ref (H.length + 3), .undef, .undef, .undef, .undef]) (fun v => retK T66 (tlN (tlN (tlN n_law_same))) [.str t, .ref w, dgs H.length, .ref (H.length + 3), .undef, v, .undef, .undef]) (H ++ [.list (tellsOf rows), s', .list [], .list out]) by kernel_rfl).trans ((bnd_of c1).trans ?_)
  refine (show _ = bnd (evalE T66 (.comp n_law_same_C3e n_law_same_C3c (.attr (.loc 2) 9)) [.str t, .ref w, dgs H.length, .ref (H.length + 3), .undef, .ref (H.length + 4), .undef, .undef]) (fun v => retK T66 (tlN (tlN (tlN (tlN n_law_same)))) [.str t, .ref w, dgs H.length, .ref (H.length + 3), .undef, .ref (H.length + 4), v, .undef]) (H ++ [.list (tellsOf rows), s', .list [], .list out, .list (out.filterMap tokRow)]) by kernel_rfl).trans ((bnd_of c2).trans ?_)
  refine (show _ = bnd (evalE T66 (.comp n_law_same_C4e n_law_same_C4c (.loc 1)) [.str t, .ref w, dgs H.length, .ref (H.length + 3), .undef, .ref (H.length + 4), .ref (H.length + 5), .undef]) (fun v => retK T66 (tlN (tlN (tlN (tlN (tlN n_law_same))))) [.str t, .ref w, dgs H.length, .ref (H.length + 3), .undef, .ref (H.length + 4), .ref (H.length + 5), v]) (H ++ [.list (tellsOf rows), s', .list [], .list out, .list (out.filterMap tokRow), .list ((tellsOf rows).filterMap tellRow)]) by kernel_rfl).trans ((bnd_of c3).trans ?_)
  let σ : List V := [.str t, .ref w, dgs H.length, .ref (H.length + 3), .undef, .ref (H.length + 4), .ref (H.length + 5), .ref (H.length + 6)]
  let bad : M V := execKs T66 (.cons (.rtn (.list .nil)) .nil) σ (fun σ => retK T66 (tlN (tlN (tlN (tlN (tlN (tlN n_law_same)))))) σ) (fun z' => failM) (fun v z' => ret v)
  refine (show _ = bnd (newL [rowV (0, [], t.length, t.length)]) (fun e => bnd (addV (.ref w) e) fun s => hB (cmpB .NotEq (.ref (H.length + 4)) s) fun r => bM r bad (hB (cmpB .NotEq (.ref (H.length + 5)) (.ref (H.length + 6))) fun r => bM r bad (bnd (forN (.inr 4) (.ref (H.length + 3)) (execSs T66 n_law_same_L5b) FUEL 0 σ) (endK T66 n_law_same_T6)))) (H ++ [.list (tellsOf rows), s', .list [], .list out, .list (out.filterMap tokRow), .list ((tellsOf rows).filterMap tellRow), .list ((rows.map rowV).filterMap farRow)]) by kernel_rfl).trans ((bnd_of new_ap).trans ?_)
  refine (bnd_of ((add_lists (ap_old hw) (ap_get (i := 7) rfl) (by rw [List.length_map]; exact Nat.le_of_lt hz)).trans new_ap)).trans ?_
  refine (hB_of (ne_lists (vs := rows.map rowV ++ [rowV (0, [], t.length, t.length)]) (ap_get (i := 4) (congrArg (fun x => some (O.list x)) (toks_rows hk))) (ap_get (i := 8) rfl) all_row)).trans ?_
  refine (hB_of (ne_lists (vs := (tellsOf rows).filterMap tellRow) (ap_get (i := 5) rfl) (ap_get (i := 6) (congrArg (fun x => some (O.list x)) (tell_far rows).symm)) all_far)).trans ?_
  obtain ⟨u, hu⟩ := same_loop (t := t) (w := w) (d := dgs H.length) (v5 := .ref (H.length + 4)) (v6 := .ref (H.length + 5)) (v7 := .ref (H.length + 6)) (G := H ++ [.list (tellsOf rows), s', .list [], .list out, .list (out.filterMap tokRow), .list ((tellsOf rows).filterMap tellRow), .list ((rows.map rowV).filterMap farRow), .list [rowV (0, [], t.length, t.length)], .list (rows.map rowV ++ [rowV (0, [], t.length, t.length)])]) hk (ap_get (i := 3) rfl) (Nat.lt_of_le_of_lt (Nat.le_of_eq ol) (Nat.lt_trans hz (by decide)))
  exact (bnd_of hu).trans rfl
noncomputable def T67 : Tab := extT T66 880 f_law_same
end

section

def HxOk (c x y : Nat) : Prop := HexF x y c ∧ ∀ s, EscIs (92 :: 120 :: x :: y :: s) (some ([c], 4))
theorem hxOk {c x y : Nat} (h : ∀ H : Hp, runK T64 5 2 n_law_hex [.str [x, y], .int ((2 : Nat) : Int)] H = some (.str [c], H)) (k : ∀ s n, escM (92 :: 120 :: x :: y :: s) n = okE [c] (n + 4)) : HxOk c x y := ⟨hexF h, k⟩
theorem hx32 (c : Nat) : c < 32 → HxOk c (hexL (c / 16)) (hexL (c % 16)) := by
  refine lt32 (P := fun c => c < 32 → HxOk c (hexL (c / 16)) (hexL (c % 16))) (fun c h k => absurd h (Nat.not_le.mpr k)) ?_ ?_ ?_ ?_ ?_ ?_ ?_ ?_ ?_ ?_ ?_ ?_ ?_ ?_ ?_ ?_ ?_ ?_ ?_ ?_ ?_ ?_ ?_ ?_ ?_ ?_ ?_ ?_ ?_ ?_ ?_ ?_ c
  all_goals exact fun z' => hxOk (fun H => by kernel_rfl) (fun s n => by kernel_rfl)
theorem hx96 : HxOk 96 54 48 := hxOk (fun H => by kernel_rfl) (fun s n => by kernel_rfl)
theorem hx36 : HxOk 36 50 52 := hxOk (fun H => by kernel_rfl) (fun s n => by kernel_rfl)
theorem ne1 {c k : Nat} (h : c ≠ k) : ([c] == [k]) = false := beq_eq_false_iff_ne.mpr fun e => h (List.cons.inj e).1
theorem ne1' {c k : Nat} (h : c ≠ k) : ([k] == [c]) = false := beq_eq_false_iff_ne.mpr fun e => h (List.cons.inj e).1.symm
theorem eq1 {c k : Nat} (h : ([c] == [k]) = true) : c = k := (List.cons.inj (beq_iff_eq.mp h)).1
def Two (e c : Nat) : Prop := e = 92 ∧ c = 92 ∨ e = 110 ∧ c = 10 ∨ e = 116 ∧ c = 9 ∨ e = 114 ∧ c = 13 ∨ e = 34 ∧ c = 34
theorem two_esc {e c : Nat} (h : Two e c) (s : List Nat) : EscIs (92 :: e :: s) (some ([c], 2)) := by
  rcases h with ⟨rfl, rfl⟩ | ⟨rfl, rfl⟩ | ⟨rfl, rfl⟩ | ⟨rfl, rfl⟩ | ⟨rfl, rfl⟩ <;> exact fun n => by kernel_rfl
theorem two_far {e c : Nat} (h : Two e c) : decide ((c : Int) > 65535) = false := by
  rcases h with ⟨_, rfl⟩ | ⟨_, rfl⟩ | ⟨_, rfl⟩ | ⟨_, rfl⟩ | ⟨_, rfl⟩ <;> rfl
theorem escL_view {c : Nat} {P : List Nat → Prop} (two : ∀ e, Two e c → P [92, e]) (hex : ∀ x y, c < 127 → HxOk c x y → P [92, 120, x, y]) (plain : 32 ≤ c → c ≠ 92 → P [c]) : P (escL c) := by
  unfold escL
  by_cases h : c = 92
  · rw [if_pos h]; exact two _ (.inl ⟨rfl, h⟩)
  rw [if_neg h]
  by_cases h1 : c = 10
  · rw [if_pos h1]; exact two _ (.inr (.inl ⟨rfl, h1⟩))
  rw [if_neg h1]
  by_cases h2 : c = 9
  · rw [if_pos h2]; exact two _ (.inr (.inr (.inl ⟨rfl, h2⟩)))
  rw [if_neg h2]
  by_cases h3 : c = 13
  · rw [if_pos h3]; exact two _ (.inr (.inr (.inr (.inl ⟨rfl, h3⟩))))
  rw [if_neg h3]
  by_cases h4 : c < 32
  · rw [if_pos h4]; exact hex _ _ (Nat.lt_trans h4 (by decide)) (hx32 c h4)
  · rw [if_neg h4]; exact plain (Nat.le_of_not_lt h4) h
theorem far_ok {c : Nat} (h : okC c = true) : far c = decide ((c : Int) > 65535) := by
  have e : (decide (55296 ≤ c) && decide (c ≤ 57343)) = false := by unfold okC at h; cases hb : (decide (55296 ≤ c) && decide (c ≤ 57343)) <;> rw [hb] at h <;> first | rfl | cases h
  show ((decide ((55296 : Int) ≤ c) && decide ((c : Int) ≤ 57343)) || decide ((c : Int) > 65535)) = _
  rw [show decide ((55296 : Int) ≤ c) = decide (55296 ≤ c) from decide_eq_decide.mpr Int.ofNat_le, show decide ((c : Int) ≤ 57343) = decide (c ≤ 57343) from decide_eq_decide.mpr Int.ofNat_le, e, Bool.false_or]
def RunTo (P : Nat → List Nat → Bool) (rest body s : List Nat) : Prop := ∃ cks, Run P rest body cks (farB s) ∧ cks.flatten = s
section
variable {P : Nat → List Nat → Bool} {rest body s : List Nat} {c : Nat}
theorem RunTo.two {e : Nat} (h : Two e c) (r : RunTo P rest body s) : RunTo P rest ([92, e] ++ body) (c :: s) := by
  obtain ⟨cks, r, f⟩ := r
  refine ⟨[c] :: cks, ?_, congrArg (List.cons c) f⟩
  show Run P rest (92 :: ([e] ++ body)) ([c] :: cks) (decide ((c : Int) > 65535) || farB s)
  rw [two_far h]
  exact .esc (two_esc h _) r
theorem RunTo.hex {x y : Nat} (hc : c < 127) (h : HxOk c x y) (r : RunTo P rest body s) : RunTo P rest ([92, 120, x, y] ++ body) (c :: s) := by
  obtain ⟨cks, r, f⟩ := r
  refine ⟨[c] :: cks, ?_, congrArg (List.cons c) f⟩
  show Run P rest (92 :: ([120, x, y] ++ body)) ([c] :: cks) (decide ((c : Int) > 65535) || farB s)
  rw [decide_eq_false (by omega)]
  exact .esc (h.2 _) r
theorem RunTo.plain (hc : okC c = true) (h : P c (body ++ rest) = true) (r : RunTo P rest body s) : RunTo P rest ([c] ++ body) (c :: s) := by
  obtain ⟨cks, r, f⟩ := r
  refine ⟨[c] :: cks, ?_, congrArg (List.cons c) f⟩
  show Run P rest (c :: body) ([c] :: cks) (decide ((c : Int) > 65535) || farB s)
  rw [← far_ok hc]
  exact .plain h r
end
theorem quote_run {rest : List Nat} : ∀ {s : List Nat}, okW s = true → RunTo (okS 34) (34 :: rest) (s.map escQ).flatten s
  | [], _ => ⟨[], .nil, rfl⟩
  | c :: s, h => by
    obtain ⟨hc, hs⟩ := (Bool.and_eq_true _ _).mp h
    have ih := quote_run (rest := rest) (s := s) hs
    show RunTo (okS 34) (34 :: rest) (escQ c ++ (s.map escQ).flatten) (c :: s)
    unfold escQ
    cases e : ([c] == [34]) with
    | true => exact ih.two (.inr (.inr (.inr (.inr ⟨rfl, eq1 e⟩))))
    | false => exact escL_view (P := fun l => RunTo (okS 34) (34 :: rest) (l ++ (s.map escQ).flatten) (c :: s)) (fun e h => ih.two h) (fun x y hc h => ih.hex hc h) fun h k => ih.plain hc (by
        unfold okS isLE
        rw [e, ne1 k, ne1 (show c ≠ 10 by omega), ne1 (show c ≠ 13 by omega)]; rfl)
theorem ck_quote : ∀ {s : List Nat}, Ck 34 (s.map escQ).flatten s
  | [] => .nil
  | c :: s => by
    have ih := ck_quote (s := s)
    show Ck 34 (escQ c ++ (s.map escQ).flatten) (c :: s)
    unfold escQ
    cases e : ([c] == [34]) with
    | true => exact .two (.inr (.inr (.inr (.inr ⟨rfl, eq1 e⟩)))) ih
    | false => exact escL_view (P := fun l => Ck 34 (l ++ (s.map escQ).flatten) (c :: s)) (fun e h => .two h ih) (fun x y hc h => .hex h.1 ih) fun h k => .plain (by
        unfold badC
        rw [ne1' (fun z => by subst z; cases e), ne1' (show c ≠ 10 by omega), ne1' (show c ≠ 13 by omega)]; rfl) (ne1 k) ih
theorem escT_head {d : Nat} {s r : List Nat} (h : d ≠ 123) : pk (escT d s ++ r) ≠ 123 := by
  unfold escT
  cases ([d] == [96])
  · cases ([d] == [36] && s.take 1 == [123])
    · exact escL_view (P := fun l => pk (l ++ r) ≠ 123) (fun z' z' => by show 92 ≠ 123; decide) (fun z' z' z' z' => by show 92 ≠ 123; decide) (fun z' z' => h)
    · show 92 ≠ 123; decide
  · show 92 ≠ 123; decide
theorem tpl_head {s rest : List Nat} (hr : pk rest ≠ 123) (h : (s.take 1 == [123]) = false) : pk (tplS s ++ rest) ≠ 123 := by
  cases s with
  | nil => exact hr
  | cons d s =>
    show pk ((escT d s ++ tplS s) ++ rest) ≠ 123
    rw [List.append_assoc]
    exact escT_head fun e => by subst e; cases h
theorem take1 {s : List Nat} (h : pk s ≠ 123) : (s.take 1 == [123]) = false := by
  cases s with
  | nil => rfl
  | cons c s => exact ne1 h
theorem tpl_run {rest : List Nat} (hr : pk rest ≠ 123) : ∀ {s : List Nat}, okW s = true → RunTo okT rest (tplS s) s
  | [], _ => ⟨[], .nil, rfl⟩
  | c :: s, h => by
    obtain ⟨hc, hs⟩ := (Bool.and_eq_true _ _).mp h
    have ih := tpl_run hr (s := s) hs
    show RunTo okT rest (escT c s ++ tplS s) (c :: s)
    unfold escT
    cases e : ([c] == [96]) with
    | true => cases eq1 e; exact ih.hex (by decide) hx96
    | false => cases e2 : ([c] == [36] && s.take 1 == [123]) with
      | true => cases eq1 ((Bool.and_eq_true _ _).mp e2).1; exact ih.hex (by decide) hx36
      | false => exact escL_view (P := fun l => RunTo okT rest (l ++ tplS s) (c :: s)) (fun e h => ih.two h) (fun x y hc h => ih.hex hc h) fun h k => ih.plain hc (by
          unfold okT
          rw [e, ne1 k, ne1 (show c ≠ 13 by omega), show ([c] == [36] && [pk (tplS s ++ rest)] == [123]) = false from ?_]
          · rfl
          · cases e3 : ([c] == [36]) with
            | false => rfl
            | true => rw [e3] at e2; exact ne1 (tpl_head hr e2))
theorem ck_tpl : ∀ {s : List Nat}, Ck 96 (tplS s) s
  | [] => .nil
  | c :: s => by
    have ih := ck_tpl (s := s)
    show Ck 96 (escT c s ++ tplS s) (c :: s)
    unfold escT
    cases e : ([c] == [96]) with
    | true => cases eq1 e; exact .hex hx96.1 ih
    | false => cases e2 : ([c] == [36] && s.take 1 == [123]) with
      | true => cases eq1 ((Bool.and_eq_true _ _).mp e2).1; exact .hex hx36.1 ih
      | false => exact escL_view (P := fun l => Ck 96 (l ++ tplS s) (c :: s)) (fun e h => .two h ih) (fun x y hc h => .hex h.1 ih) fun h k => .plain (by
          show badC 96 c (tplS s) = false
          unfold badC
          rw [ne1' (fun z => by subst z; cases e), ne1' (show c ≠ 10 by omega), ne1' (show c ≠ 13 by omega), show ([96] == [96] && ([c] == [36] && (tplS s).take 1 == [123])) = false from ?_]
          · rfl
          · cases e3 : ([c] == [36]) with
            | false => rfl
            | true =>
              rw [e3] at e2
              have := tpl_head (s := s) (rest := []) (by decide) e2
              rw [List.append_nil] at this
              rw [take1 this]; rfl) (ne1 k) ih
end

section

theorem key_ok {s : List Nat} {H : Hp} (hz : s.length ≤ 20000) : f_prop_key [.str s] H = some (.str (keyS s), H) := gd_H hz
theorem adds {a b : List Nat} {H : Hp} (hz : a.length + b.length ≤ SZ) : addV (.str a) (.str b) H = some (.str (a ++ b), H) := (orM_none rfl).trans (orM_of (gd_H hz))
noncomputable def wrN (s : List Nat) : Nat → List Nat
  | 1 => bif kindN s == 3 then s else quoteS s
  | _ => 96 :: (tplS s ++ [96])
noncomputable def wrK (s : List Nat) : Nat → Nat
  | 1 => bif kindN s == 3 then 3 else 4
  | _ => 6
noncomputable def rows3 (k : Nat) (s n : List Nat) (a : Nat) : List Row := [(5, [91], a, a + 1), (k, s, a + 1, a + 1 + n.length), (5, [93], a + 1 + n.length, a + 1 + n.length + 1)]
noncomputable def wrT (s : List Nat) : Nat → List Nat
  | 0 => keyS s
  | w => 91 :: (wrN s w ++ [93])
noncomputable def wrR (s : List Nat) (a : Nat) : Nat → List Row
  | 0 => [(kindN s, s, a, a + (keyS s).length)]
  | w => rows3 (wrK s w) s (wrN s w) a
noncomputable def f_law_written : Fn := runF T67 8 3 n_law_written
section
variable {s : List Nat} {H : Hp} {a : Nat}
theorem wr_rest {n : List Nat} {k w : Nat} (hz : n.length + 2 ≤ SZ) : retK T67 (tlN (tlN (tlN (tlN n_law_written)))) [.str s, .int w, .int a, .undef, .str n, .int k, .undef, .undef] H = some (.tup [.str (91 :: (n ++ [93])), .ref H.length], H ++ [.list ((rows3 k s n a).map rowV)]) := by
  refine (show _ = bnd (addV (.str [91]) (.str n)) (fun v => bnd (addV v (.str [93])) fun v => bnd (newL ((rows3 k s n a).map rowV)) fun l => ret (.tup [v, l])) H by kernel_rfl).trans ?_
  exact (bnd_of (adds (Nat.le_trans (by rw [List.length_singleton, Nat.add_comm]; exact Nat.le_succ _) hz))).trans ((bnd_of (adds (Nat.le_trans (Nat.le_of_eq (by rw [List.length_append, List.length_singleton, List.length_singleton, Nat.add_comm 1, Nat.add_assoc])) hz))).trans rfl)
theorem written0 (hz : s.length ≤ 20000) : f_law_written [.str s, .int ((0 : Nat) : Int), .int a] H = some (.tup [.str (wrT s 0), .ref H.length], H ++ [.list ((wrR s a 0).map rowV)]) := by
  refine runK_le H _ ((show _ = bnd (f_prop_key [.str s]) (fun v => execKs T67 (tlN n_law_written_B1) [.str s, .int ((0 : Nat) : Int), .int a, v, .undef, .undef, .undef, .undef] (fun σ => retK T67 (tlN n_law_written) σ) (fun z' => failM) (fun v z' => ret v)) H by kernel_rfl).trans ((bnd_of (key_ok hz)).trans ?_))
  refine (show _ = bnd (f_law_kind [.str s]) (fun k => bnd (newL [.tup [k, .str s, .int a, .int ((a + (keyS s).length : Nat) : Int)]]) fun l => ret (.tup [.str (keyS s), l])) H by kernel_rfl).trans ((bnd_of (kind_ok (Nat.le_trans hz (by decide)))).trans ?_)
  rfl
theorem written1 (hz : s.length ≤ 20000) : f_law_written [.str s, .int ((1 : Nat) : Int), .int a] H = some (.tup [.str (wrT s 1), .ref H.length], H ++ [.list ((wrR s a 1).map rowV)]) := by
  refine runK_le H _ ((show _ = bnd (f_quote [.str s]) (fun v => retK T67 (tlN (tlN n_law_written)) [.str s, .int ((1 : Nat) : Int), .int a, .undef, v, .undef, .undef, .undef]) H by kernel_rfl).trans ((bnd_of (quote_ok hz)).trans ?_))
  refine (show _ = bnd (f_law_kind [.str s]) (fun k => hB (cmpB .Eq k (.int ((3 : Nat) : Int))) fun r => bM r (retK T67 (tlN (tlN (tlN (tlN n_law_written)))) [.str s, .int ((1 : Nat) : Int), .int a, .undef, .str s, .int ((3 : Nat) : Int), .undef, .undef]) (retK T67 (tlN (tlN (tlN (tlN n_law_written)))) [.str s, .int ((1 : Nat) : Int), .int a, .undef, .str (quoteS s), .int ((4 : Nat) : Int), .undef, .undef])) H by kernel_rfl).trans ((bnd_of (kind_ok (Nat.le_trans hz (by decide)))).trans ?_)
  refine (show _ = bM ((kindN s : Int) == (3 : Nat)) (retK T67 (tlN (tlN (tlN (tlN n_law_written)))) [.str s, .int ((1 : Nat) : Int), .int a, .undef, .str s, .int ((3 : Nat) : Int), .undef, .undef]) (retK T67 (tlN (tlN (tlN (tlN n_law_written)))) [.str s, .int ((1 : Nat) : Int), .int a, .undef, .str (quoteS s), .int ((4 : Nat) : Int), .undef, .undef]) H by kernel_rfl).trans ?_
  have hq := quoteS_len s
  have go : ∀ b : Bool, bM b (retK T67 (tlN (tlN (tlN (tlN n_law_written)))) [.str s, .int ((1 : Nat) : Int), .int a, .undef, .str s, .int ((3 : Nat) : Int), .undef, .undef]) (retK T67 (tlN (tlN (tlN (tlN n_law_written)))) [.str s, .int ((1 : Nat) : Int), .int a, .undef, .str (quoteS s), .int ((4 : Nat) : Int), .undef, .undef]) H = some (.tup [.str (91 :: ((bif b then s else quoteS s) ++ [93])), .ref H.length], H ++ [.list ((rows3 (bif b then 3 else 4) s (bif b then s else quoteS s) a).map rowV)]) := fun b => by
    cases b with
    | true => exact (congrFun (bM_t rfl) H).trans (wr_rest (w := 1) (Nat.le_trans (Nat.add_le_add_right hz 2) (by decide)))
    | false => exact (congrFun (bM_f rfl) H).trans (wr_rest (w := 1) (Nat.le_trans (Nat.add_le_add_right (Nat.le_trans hq (Nat.add_le_add_right (Nat.mul_le_mul_left 4 hz) 2)) 2) (by decide)))
  refine (go _).trans ?_
  rw [show ((kindN s : Int) == (3 : Nat)) = (kindN s == 3) by rw [Bool.eq_iff_iff, beq_iff_eq, beq_iff_eq]; exact Int.ofNat_inj]; rfl
theorem written2 (hz : s.length ≤ 20000) : f_law_written [.str s, .int ((2 : Nat) : Int), .int a] H = some (.tup [.str (wrT s 2), .ref H.length], H ++ [.list ((wrR s a 2).map rowV)]) := by
  have z : SZ = 100000 := rfl
  have hl := tplS_len s
  refine runK_le H _ ((show _ = bnd (f_template_text [.str s]) (fun v => bnd (addV (.str [96]) v) fun v => bnd (addV v (.str [96])) fun v => retK T67 (tlN (tlN n_law_written)) [.str s, .int ((2 : Nat) : Int), .int a, .undef, v, .undef, .undef, .undef]) H by kernel_rfl).trans ((bnd_of (template_ok hz)).trans ?_))
  refine (bnd_of (adds (by rw [z, List.length_singleton]; omega))).trans ((bnd_of (adds (by rw [z, List.length_append, List.length_singleton]; omega))).trans ?_)
  refine (show _ = retK T67 (tlN (tlN (tlN (tlN n_law_written)))) [.str s, .int ((2 : Nat) : Int), .int a, .undef, .str (96 :: (tplS s ++ [96])), .int ((6 : Nat) : Int), .undef, .undef] H by kernel_rfl).trans ?_
  exact wr_rest (n := wrN s 2) (k := wrK s 2) (w := 2) (by show (96 :: (tplS s ++ [96])).length + 2 ≤ SZ; rw [z, List.length_cons, List.length_append, List.length_singleton]; omega)
theorem written_ok {w : Nat} (hz : s.length ≤ 20000) (hw : w ≤ 2) : f_law_written [.str s, .int w, .int a] H = some (.tup [.str (wrT s w), .ref H.length], H ++ [.list ((wrR s a w).map rowV)]) := by
  match w, hw with
  | 0, _ => exact written0 hz
  | 1, _ => exact written1 hz
  | 2, _ => exact written2 hz
end
noncomputable def T68 : Tab := extT T67 887 f_law_written

noncomputable def f_law_judged : Fn := runF T68 3 1 n_law_judged
theorem idx_strlast {t : List Nat} {c : Nat} {H : Hp} : idxV (.str (t ++ [c])) (.int (-1)) H = some (.str [c], H) := by
  refine orM_of ?_
  show oB ((place (-1) (t ++ [c]).length).bind fun j => (t ++ [c])[j]?) (fun c => ret (V.str [c])) H = _
  rw [List.length_append, List.length_singleton, place_neg]
  show oB (t ++ [c])[t.length]? (fun c => ret (V.str [c])) H = _
  rw [List.getElem?_concat_length]; rfl
theorem slc_in {t : List Nat} {c d : Nat} {H : Hp} : slcV (.str (c :: (t ++ [d]))) (.int ((1 : Nat) : Int)) (.int (-1)) H = some (.str t, H) := by
  refine orM_of ?_
  show ret (V.str (cut (c :: (t ++ [d])) (min 1 (c :: (t ++ [d])).length) ((-1 + ((c :: (t ++ [d])).length : Int)).toNat))) H = _
  rw [List.length_cons, List.length_append, List.length_singleton, show (-1 + ((t.length + 1 + 1 : Nat) : Int)).toNat = t.length + 1 by omega, show min 1 (t.length + 1 + 1) = 1 by omega]
  unfold cut
  rw [List.take_succ_cons, List.drop_succ_cons, List.take_left' rfl]; rfl
theorem ne_q {X Y : M V} {H : Hp} : hB (cmpB .NotEq (.str [34]) (.str [34])) (fun r => bM r X Y) H = Y H := (hB_of (show cmpB .NotEq (.str [34]) (.str [34]) H = some false from rfl)).trans rfl
theorem judged_ok {s : List Nat} {H : Hp} (hz : s.length ≤ 20000) : f_law_judged [.str s] H = some (.bool true, H) := by
  have z : SZ = 100000 := rfl
  have hq := flat_len escQ_len s
  have ht := tplS_len s
  have hsz : s.length ≤ SZ := by rw [z]; omega
  refine runK_le H _ ((show _ = bnd (f_prop_key [.str s]) (fun v1 => bnd (f_quote [.str s]) fun v2 => retK T68 (tlN (tlN n_law_judged)) [.str s, v1, v2]) H by kernel_rfl).trans ((bnd_of (key_ok hz)).trans ((bnd_of (quote_ok hz)).trans ?_)))
  let bad (n : N) : M V := execKs T68 (.cons (.rtn (.lit (.bool .false))) .nil) [.str s, .str (keyS s), .str (quoteS s)] (fun σ => retK T68 n σ) (fun z' => failM) (fun v z' => ret v)
  let next : M V := retK T68 (tlN (tlN (tlN n_law_judged))) [.str s, .str (keyS s), .str (quoteS s)]
  have hn : next H = some (.bool true, H) := by
    have b4 : ∀ {X Y : M V}, hB (cmpB .NotEq (.str s) (.str s)) (fun r => bM r X Y) H = Y H := fun {X Y} => by
      refine (hB_of (show cmpB .NotEq (.str s) (.str s) H = some false from ?_)).trans rfl
      show some (!(s == s)) = _
      rw [beq_self_eq_true]; rfl
    let last : M V := retK T68 (tlN (tlN (tlN (tlN n_law_judged)))) [.str s, .str (keyS s), .str (quoteS s)]
    have hl : last H = some (.bool true, H) := by
      refine (show _ = bnd (f_template_text [.str s]) (fun v => bnd (f_law_cook [v, .str [96]]) fun v => hB (cmpB .Eq v (.str s)) fun r => ret (.bool r)) H by kernel_rfl).trans ((bnd_of (template_ok hz)).trans ((bnd_of (cook_ok rfl ck_tpl (Nat.lt_of_le_of_lt (show _ ≤ SZ by rw [z]; omega) (by decide)) hsz)).trans ?_))
      show some (V.bool (s == s), H) = _
      rw [beq_self_eq_true]
    let b1 : M V := bnd (idxV (.str (quoteS s)) (.int (-1))) fun v => hB (cmpB .NotEq v (.str [34])) fun r => bM r (bad (tlN (tlN (tlN (tlN n_law_judged))))) (bnd (slcV (.str (quoteS s)) (.int ((1 : Nat) : Int)) (.int (-1))) fun v => bnd (f_law_cook [v, .str [34]]) fun v => hB (cmpB .NotEq v (.str s)) fun r => bM r (bad (tlN (tlN (tlN (tlN n_law_judged))))) last)
    have hb1 : b1 H = some (.bool true, H) := by
      refine (bnd_of (idx_strlast (t := 34 :: (s.map escQ).flatten))).trans ?_
      refine ne_q.trans (((bnd_of slc_in).trans ((bnd_of (cook_ok rfl ck_quote (Nat.lt_of_le_of_lt (show _ ≤ SZ by rw [z]; omega) (by decide)) hsz)).trans (b4.trans hl))))
    let b0 : M V := bnd (idxV (.str (quoteS s)) (.int ((0 : Nat) : Int))) fun v => hB (cmpB .NotEq v (.str [34])) fun r => bM r (bad (tlN (tlN (tlN (tlN n_law_judged))))) b1
    have hb0 : b0 H = some (.bool true, H) := by
      refine (bnd_of (show idxV (.str (quoteS s)) (.int ((0 : Nat) : Int)) H = some (.str [34], H) from congrFun (idx_str (t := quoteS s) (c := 34) (s := (s.map escQ).flatten ++ [34]) (n := 0) rfl) H)).trans ?_
      exact ne_q.trans hb1
    refine (show _ = bM (decide (((quoteS s).length : Int) < ((2 : Nat) : Int))) (bad (tlN (tlN (tlN (tlN n_law_judged))))) b0 H by kernel_rfl).trans ?_
    rw [decide_eq_false (show ¬ (((quoteS s).length : Int) < ((2 : Nat) : Int)) from fun k => Nat.not_lt.mpr (show 2 ≤ (quoteS s).length by unfold quoteS; rw [List.length_cons, List.length_append, List.length_singleton]; omega) (Int.ofNat_lt.mp k))]
    exact (congrFun (bM_f rfl) H).trans hb0
  refine (show _ = bnd (f_law_kind [.str s]) (fun k => hB (cmpB .Eq k (.int ((4 : Nat) : Int))) fun r => bM r (hB (cmpB .NotEq (.str (keyS s)) (.str (quoteS s))) fun r => bM r (bad (tlN (tlN (tlN n_law_judged)))) next) (hB (cmpB .NotEq (.str (keyS s)) (.str s)) fun r => bM r (bad (tlN (tlN (tlN n_law_judged)))) next)) H by kernel_rfl).trans ((bnd_of (kind_ok hsz)).trans ?_)
  refine (show _ = bM ((kindN s : Int) == (4 : Nat)) (bM (!(keyS s == quoteS s)) (bad (tlN (tlN (tlN n_law_judged)))) next) (bM (!(keyS s == s)) (bad (tlN (tlN (tlN n_law_judged)))) next) H by kernel_rfl).trans ?_
  unfold kindN keyS
  cases standsB s with
  | true =>
    cases isRes s <;> (show bM (!(s == s)) _ next H = _; rw [beq_self_eq_true]; exact (congrFun (bM_f rfl) H).trans hn)
  | false =>
    cases digitsB s with
    | true => show bM (!(s == s)) _ next H = _; rw [beq_self_eq_true]; exact (congrFun (bM_f rfl) H).trans hn
    | false => show bM (!(quoteS s == quoteS s)) _ next H = _; rw [beq_self_eq_true]; exact (congrFun (bM_f rfl) H).trans hn
noncomputable def T69 : Tab := extT T68 894 f_law_judged
end

section

theorem dec_nat (n : Nat) : decText (n : Int) = (Nat.toDigits 10 n).map Char.toNat := by
  show (String.ofList (Nat.toDigits 10 n)).toList.map Char.toNat = _
  rw [String.toList_ofList]
theorem dig_all {c : Nat} (h : s_DIGIT_LETTERS.contains c = true) : isNS c = false ∧ isDig c = true ∧ dig c = true ∧ dvN c < 10 ∧ (c ≠ 48 → 0 < dvN c) ∧ (Nat.toDigits 10 (dvN c)).map Char.toNat = [c] ∧ decide ((c : Int) > 65535) = false :=
  of_decide_eq_true (List.all_eq_true.mp (show s_DIGIT_LETTERS.all (fun c => decide (isNS c = false ∧ isDig c = true ∧ dig c = true ∧ dvN c < 10 ∧ (c ≠ 48 → 0 < dvN c) ∧ (Nat.toDigits 10 (dvN c)).map Char.toNat = [c] ∧ decide ((c : Int) > 65535) = false)) = true by decide +kernel) c (List.contains_iff_mem.mp h))
theorem wl_all {c : Nat} (h : wl c = true) : isNP c = true ∧ (s_DIGIT_LETTERS.contains c = false → isNS c = true) ∧ decide ((c : Int) > 65535) = false := by
  rw [← wl64] at h
  exact of_decide_eq_true (List.all_eq_true.mp (show s_LAW64.all (fun c => decide (isNP c = true ∧ (s_DIGIT_LETTERS.contains c = false → isNS c = true) ∧ decide ((c : Int) > 65535) = false)) = true by decide +kernel) c (List.contains_iff_mem.mp h))
theorem dec_num : ∀ {s : List Nat} {a : Nat}, 0 < a → s.all s_DIGIT_LETTERS.contains = true → decText (numV s a : Nat) = decText (a : Nat) ++ s
  | [], a, _, _ => (List.append_nil _).symm
  | c :: s, a, ha, h => by
    obtain ⟨hc, hs⟩ := (Bool.and_eq_true _ _).mp h
    obtain ⟨_, _, _, h10, _, hd, _⟩ := dig_all hc
    show decText (numV s (a * 10 + dvN c) : Nat) = _
    rw [dec_num (Nat.lt_of_lt_of_le (Nat.mul_pos ha (by decide)) (Nat.le_add_right _ _)) hs, dec_nat, dec_nat, Nat.mul_comm, ← Nat.toDigits_append_toDigits (by decide) ha h10, List.map_append, hd, List.append_assoc]; rfl
theorem dec_key {d : Nat} {s : List Nat} (h : (d :: s).all s_DIGIT_LETTERS.contains = true) (h0 : d = 48 → s = []) : decText (numV (d :: s) 0 : Nat) = d :: s := by
  obtain ⟨hc, hs⟩ := (Bool.and_eq_true _ _).mp h
  obtain ⟨_, _, _, _, hp, hd, _⟩ := dig_all hc
  show decText (numV s (0 * 10 + dvN d) : Nat) = _
  rw [Nat.zero_mul, Nat.zero_add]
  by_cases e : d = 48
  · cases h0 e; exact (dec_nat _).trans hd
  · rw [dec_num (hp e) hs, dec_nat, hd]; rfl

theorem Lex.fit {s x : List Nat} {w k v : Nat} {b : Bool} (h : Lex s w k x v b) : stopB s ∧ s ≠ [] ∧ ((k : Int) == 0) = false := by
  cases h with
  | @name c ws s hc h2 h3 =>
    refine ⟨⟨?_, ?_⟩, List.cons_ne_nil _ _, by cases isRes (c :: ws) <;> rfl⟩
    · cases e : isB c with
      | false => rfl
      | true =>
        have : c = 10 ∨ c = 13 ∨ c = 32 ∨ c = 9 := by
          unfold isB isLE at e
          rw [Bool.or_eq_true, Bool.or_eq_true, Bool.or_eq_true] at e
          rcases e with (e | e) | (e | e) <;> cases eq1 e <;> decide
        rcases this with rfl | rfl | rfl | rfl <;> cases hc
    · exact ne1 fun e => by subst e; cases hc
  | @num d ds s h0 h1 h2 h3 h4 h5 h6 =>
    refine ⟨⟨?_, ?_⟩, List.cons_ne_nil _ _, rfl⟩
    · cases e : isB d with
      | false => rfl
      | true =>
        have : d = 10 ∨ d = 13 ∨ d = 32 ∨ d = 9 := by
          unfold isB isLE at e
          rw [Bool.or_eq_true, Bool.or_eq_true, Bool.or_eq_true] at e
          rcases e with (e | e) | (e | e) <;> cases eq1 e <;> decide
        rcases this with rfl | rfl | rfl | rfl <;> cases h1
    · exact ne1 fun e => by subst e; cases h1
  | str hq _ => rcases hq with rfl | rfl <;> exact ⟨⟨rfl, rfl⟩, List.cons_ne_nil _ _, rfl⟩
  | @tpl rest body cks b w cl he _ => exact ⟨⟨rfl, rfl⟩, List.cons_ne_nil _ _, by cases cl == 0 <;> rfl⟩
  | sign hc => rcases hc with rfl | rfl | rfl | rfl | rfl <;> exact ⟨⟨rfl, rfl⟩, List.cons_ne_nil _ _, rfl⟩
def Good (t : List Nat) (n : Nat) (hs : List Nat) (rows : List Row) : Prop := ∃ out, Lx t n hs out (tellsOf rows) ∧ Toks t.length rows out
section
variable {t w rest bs hs hs' x : List Nat} {n k v : Nat} {rows : List Row}
theorem Good.fin (h : t.length = n) : Good t n [] [] := by
  have hd : t.drop n = [] := List.drop_eq_nil_of_le (Nat.le_of_eq h)
  exact ⟨_, .fin hd rfl, by subst h; exact .nil⟩
theorem Good.tk (hl : Lex (w ++ rest) w.length k x v (farB x)) (hv : ((k : Int) == 3) = true → v = numV x 0 ∧ x.all s_DIGIT_LETTERS.contains = true ∧ x.length ≤ 15) (h : t.drop n = bs ++ (w ++ rest)) (hb : bs.all isB = true) (hz : x.length ≤ SZ) (hf : Fol k x hs hs') (ih : Good t (n + bs.length + w.length) hs' rows) : Good t n hs ((k, x, n + bs.length, n + bs.length + w.length) :: rows) := by
  obtain ⟨out, h1, h2⟩ := ih
  obtain ⟨a, b, c⟩ := hl.fit
  exact ⟨_, .tk hl c a b h hb hz hf h1, .cons hv hz h2⟩
theorem Good.tail {s : List Nat} (hr : RunTo okT (96 :: rest) w s) (h : t.drop n = 125 :: (w ++ 96 :: rest)) (hz : s.length ≤ SZ) (ih : Good t (n + 1 + w.length + 1) hs rows) : Good t n (hs ++ [0]) ((9, s, n, n + 1 + w.length + 1) :: rows) := by
  obtain ⟨out, h1, h2⟩ := ih
  obtain ⟨cks, hr, rfl⟩ := hr
  exact ⟨_, .tail (bs := []) h rfl hr hz h1, .cons (fun e => nomatch e) hz h2⟩
end
def After (s : List Nat) : Prop := stopN s ∧ isNP (pk s) = false
section
variable {s rest : List Nat}
theorem lex_quote (hs : okW s = true) : Lex (quoteS s ++ rest) (quoteS s).length 4 s 0 (farB s) := by
  obtain ⟨cks, hr, hf⟩ := quote_run (rest := rest) hs
  have := Lex.str (.inl rfl) hr
  rw [hf] at this
  unfold quoteS
  rw [List.length_cons, List.length_append, List.cons_append, List.append_assoc]
  exact this
theorem lex_tpl (hs : okW s = true) : Lex ((96 :: (tplS s ++ [96])) ++ rest) (96 :: (tplS s ++ [96])).length 6 s 0 (farB s) := by
  obtain ⟨cks, hr, hf⟩ := tpl_run (rest := 96 :: rest) (by decide : (96 : Nat) ≠ 123) hs
  have := Lex.tpl (.inl ⟨rest, rfl, rfl, rfl⟩) hr
  rw [hf, Nat.add_comm 1, Nat.add_assoc] at this
  rw [List.length_cons, List.length_append, List.cons_append, List.append_assoc]
  exact this
def NumOk (k v : Nat) (x : List Nat) : Prop := ((k : Int) == 3) = true → v = numV x 0 ∧ x.all s_DIGIT_LETTERS.contains = true ∧ x.length ≤ 15
theorem far_all {P : Nat → Bool} (hp : ∀ c, P c = true → decide ((c : Int) > 65535) = false) (h : s.all P = true) : farB s = false := by
  cases e : farB s with
  | false => rfl
  | true =>
    obtain ⟨c, hc, hf⟩ := List.any_eq_true.mp e
    rw [hp c (List.all_eq_true.mp h c hc)] at hf; cases hf
theorem lex_digits (h : digitsB s = true) (hr : After rest) : Lex (s ++ rest) s.length 3 s (numV s 0) (farB s) ∧ NumOk 3 (numV s 0) s := by
  cases s with
  | nil => cases h
  | cons d s =>
    rw [digits_cons, Bool.and_eq_true] at h
    obtain ⟨h1, h2⟩ := h
    have hz : (d :: s).length ≤ 15 := by
      cases e : decide (((d :: s).length : Int) > 15) with
      | false => exact Int.ofNat_le.mp (Int.not_lt.mp (of_decide_eq_false e))
      | true => rw [e] at h1; cases h1
    have h0 : d = 48 → s = [] := fun e => by
      subst e
      cases s with
      | nil => rfl
      | cons c s => rw [show ((48 :: c :: s) == [48]) = false from rfl, show ([48] == [48]) = true from rfl] at h1; cases e : decide (((48 :: c :: s).length : Int) > 15) <;> rw [e] at h1 <;> cases h1
    obtain ⟨a, b, _⟩ := dig_all ((Bool.and_eq_true _ _).mp h2).1
    rw [far_all (fun c hc => (dig_all hc).2.2.2.2.2.2) h2]
    exact ⟨.num a b hr.1 (List.all_eq_true.mpr fun c hc => (dig_all (List.all_eq_true.mp h2 c hc)).2.2.1) hz h0 (dec_key h2 h0), fun z' => ⟨rfl, h2, hz⟩⟩
theorem lex_key (hs : okW s = true) (hr : After rest) : ∃ v, Lex (keyS s ++ rest) (keyS s).length (kindN s) s v (farB s) ∧ NumOk (kindN s) v s := by
  unfold keyS kindN
  cases e : standsB s with
  | true =>
    cases s with
    | nil => cases e
    | cons c s =>
      obtain ⟨h1, h2⟩ := (Bool.and_eq_true _ _).mp e
      have hd : s_DIGIT_LETTERS.contains c = false := by cases e : s_DIGIT_LETTERS.contains c <;> rw [e] at h1 <;> first | rfl | cases h1
      refine ⟨0, ?_, by show ((((bif isRes (c :: s) then 2 else 1 : Nat) : Int) == 3) = true) → _; cases isRes (c :: s) <;> exact fun e => nomatch e⟩
      rw [far_all (fun c hc => (wl_all hc).2.2) h2]
      exact .name ((wl_all ((Bool.and_eq_true _ _).mp h2).1).2.1 hd) (List.all_eq_true.mpr fun c hc => (wl_all (List.all_eq_true.mp h2 c hc)).1) hr.2
  | false =>
    cases e2 : digitsB s with
    | true => exact ⟨_, lex_digits e2 hr⟩
    | false => exact ⟨0, lex_quote hs, fun e => nomatch e⟩
theorem stand_digit (h : kindN s = 3) : digitsB s = true := by
  unfold kindN at h
  cases e : standsB s with
  | true => rw [e] at h; cases e2 : isRes s <;> rw [e2] at h <;> cases h
  | false => cases e2 : digitsB s <;> rw [e, e2] at h <;> first | rfl | cases h
theorem lex_nest (hs : okW s = true) (hr : After rest) : ∃ v, Lex (wrN s 1 ++ rest) (wrN s 1).length (wrK s 1) s v (farB s) ∧ NumOk (wrK s 1) v s := by
  show ∃ v, Lex ((bif kindN s == 3 then s else quoteS s) ++ rest) (bif kindN s == 3 then s else quoteS s).length (bif kindN s == 3 then 3 else 4) s v (farB s) ∧ NumOk (bif kindN s == 3 then 3 else 4) v s
  cases e : kindN s == 3 with
  | true => exact ⟨_, lex_digits (stand_digit (beq_iff_eq.mp e)) hr⟩
  | false => exact ⟨0, lex_quote hs, fun e => nomatch e⟩
end
end

section

abbrev Item := List Nat × Nat
def ItOk (i : Item) : Prop := okW i.1 = true ∧ i.1.length ≤ 40 ∧ i.2 ≤ 2
def RdOk (t : List Nat) (r : Row) : Prop :=
  (r.1 = 4 → (∃ s, t.drop r.2.2.1 = 34 :: s) ∧ ∀ H : Hp, f_read_string [.str t, .int (r.2.2.1 : Nat)] H = some (.tup [.str r.2.1, .int (r.2.2.2 : Nat), .bool (!farB r.2.1)], H)) ∧
  (r.1 = 6 → ∀ H : Hp, f_read_template [.str t, .int (r.2.2.1 : Nat)] H = some (.tup [.str r.2.1, .int (r.2.2.2 : Nat), .int (bif farB r.2.1 then (2 : Nat) else (1 : Nat) : Nat)], H))
section
variable {t s rest bs : List Nat} {n w : Nat} {rows : List Row}
theorem quote_cons (l : List Nat) : quoteS s ++ l = 34 :: ((s.map escQ).flatten ++ 34 :: l) := by unfold quoteS; rw [List.cons_append, List.append_assoc]; rfl
theorem quote_length : (quoteS s).length = (s.map escQ).flatten.length + 2 := by unfold quoteS; rw [List.length_cons, List.length_append]; rfl
theorem rd_quote (hs : okW s = true) (hz : s.length ≤ SZ) (ht : t.length + 2 ≤ SZ) (h : t.drop n = quoteS s ++ rest) : RdOk t (4, s, n, n + (quoteS s).length) := by
  rw [quote_cons] at h
  refine ⟨fun z' => ⟨⟨_, h⟩, fun H => ?_⟩, fun e => nomatch e⟩
  obtain ⟨cks, hr, hf⟩ := quote_run (rest := rest) hs
  subst hf
  rw [quote_length]
  exact read_string_ok rfl rfl ht hr h hz
theorem rd_tpl (hs : okW s = true) (hz : s.length ≤ SZ) (ht : t.length + 2 ≤ SZ) (h : t.drop n = (96 :: (tplS s ++ [96])) ++ rest) : RdOk t (6, s, n, n + (96 :: (tplS s ++ [96])).length) := by
  rw [List.cons_append, List.append_assoc] at h
  refine ⟨(fun e => nomatch e), fun z' H => ?_⟩
  obtain ⟨cks, hr, hf⟩ := tpl_run (rest := 96 :: rest) (by decide : (96 : Nat) ≠ 123) hs
  have := read_template_ok (H := H) (.inl ⟨rest, rfl, rfl, rfl⟩) ht hr h (by rw [hf]; exact hz)
  rw [hf] at this
  rw [List.length_cons, List.length_append, List.length_singleton, show n + ((tplS s).length + 1 + 1) = n + 1 + (tplS s).length + 1 by omega]
  refine this.trans ?_
  cases farB s <;> rfl
theorem rd_none {k a e : Nat} {x : List Nat} (h4 : k ≠ 4) (h6 : k ≠ 6) : RdOk t (k, x, a, e) := ⟨fun e => absurd e h4, fun e => absurd e h6⟩
theorem rd_digits {a e : Nat} {x : List Nat} : RdOk t (3, x, a, e) := rd_none (by decide) (by decide)
def GoodR (t : List Nat) (n : Nat) (rows : List Row) : Prop := Good t n [] rows ∧ ∀ r ∈ rows, RdOk t r
theorem GoodR.cons {r : Row} {m : Nat} (g : GoodR t m rows) (h : Good t m [] rows → Good t n [] (r :: rows)) (hr : RdOk t r) : GoodR t n (r :: rows) := ⟨h g.1, fun x hx => by
  rcases List.mem_cons.mp hx with rfl | hx
  · exact hr
  · exact g.2 x hx⟩
theorem good_sign {c : Nat} (hc : signOk c) (h : t.drop n = bs ++ (c :: rest)) (hb : bs.all isB = true) (g : GoodR t (n + bs.length + 1) rows) : GoodR t n ((5, [c], n + bs.length, n + bs.length + 1) :: rows) :=
  g.cons (fun g => Good.tk (w := [c]) (rest := rest) (v := 0) (by
    rw [show farB [c] = false by rcases hc with rfl | rfl | rfl | rfl | rfl <;> rfl]; exact .sign hc) (fun e => nomatch e) h hb (show 1 ≤ SZ by decide) (.out rfl) g) (rd_none (by decide) (by decide))
theorem kind_lt : kindN s < 5 ∧ kindN s ≠ 0 := by
  unfold kindN
  cases standsB s <;> cases isRes s <;> cases digitsB s <;> decide
theorem good_item {w : Nat} (hi : ItOk (s, w)) (ht : t.length + 2 ≤ SZ) (h : t.drop n = bs ++ (wrT s w ++ rest)) (hb : bs.all isB = true) (ha : After rest) (g : GoodR t (n + bs.length + (wrT s w).length) rows) : GoodR t n (wrR s (n + bs.length) w ++ rows) := by
  obtain ⟨hs, hz, hw⟩ := hi
  have hy : s.length ≤ SZ := Nat.le_trans hz (by decide)
  clear hz
  have nest : ∀ {k v : Nat} {m : List Nat}, (∀ r, After r → Lex (m ++ r) m.length k s v (farB s) ∧ NumOk k v s) → k < 7 → (∀ (a : Nat) (r : List Nat), t.drop a = m ++ r → RdOk t (k, s, a, a + m.length)) → t.drop n = bs ++ (91 :: (m ++ [93])) ++ rest → GoodR t (n + bs.length + (91 :: (m ++ [93])).length) rows → GoodR t n (rows3 k s m (n + bs.length) ++ rows) := fun {k v m} hl hk hr h g => by
    rw [List.append_assoc, List.cons_append, List.append_assoc] at h
    have h1 : t.drop (n + bs.length + 1) = m ++ ([93] ++ rest) := drop_succ (drop_add h)
    have aft : After ([93] ++ rest) := ⟨⟨rfl, rfl, rfl, rfl⟩, rfl⟩
    rw [List.length_cons, List.length_append, List.length_singleton, show n + bs.length + (m.length + 1 + 1) = n + bs.length + 1 + m.length + 0 + 1 by omega] at g
    refine good_sign (.inl rfl) h hb (GoodR.cons (m := n + bs.length + 1 + m.length) ?_ (fun g => Good.tk (bs := []) (hl _ aft).1 (hl _ aft).2 h1 rfl hy (.out (beq_eq_false_iff_ne.mpr fun e => Nat.ne_of_lt hk (Int.ofNat_inj.mp e))) g) (hr _ _ h1))
    exact good_sign (bs := []) (.inr (.inl rfl)) (drop_add h1) rfl g
  match w, hw with
  | 0, _ =>
    obtain ⟨v, hl, hv⟩ := lex_key hs ha
    refine g.cons (fun g => Good.tk hl hv h hb hy (.out (beq_eq_false_iff_ne.mpr fun e => Nat.ne_of_lt (Nat.lt_trans kind_lt.1 (by decide)) (Int.ofNat_inj.mp e))) g) ?_
    by_cases e : kindN s = 4
    · rw [e]
      have hk : keyS s = quoteS s := by
        unfold kindN at e; unfold keyS
        cases h1 : standsB s with
        | true => rw [h1] at e; cases h2 : isRes s <;> rw [h2] at e <;> cases e
        | false => cases h2 : digitsB s with
          | true => rw [h1, h2] at e; cases e
          | false => rfl
      have h' : t.drop (n + bs.length) = quoteS s ++ rest := by rw [← hk]; exact drop_add h
      have := rd_quote hs hy ht h'
      rw [← hk] at this; exact this
    · exact rd_none e (Nat.ne_of_lt (Nat.lt_trans kind_lt.1 (by decide)))
  | 1, _ =>
    show GoodR t n (rows3 (wrK s 1) s (wrN s 1) (n + bs.length) ++ rows)
    have h' : t.drop n = bs ++ (91 :: (wrN s 1 ++ [93])) ++ rest := by rw [List.append_assoc]; exact h
    have g' : GoodR t (n + bs.length + (91 :: (wrN s 1 ++ [93])).length) rows := g
    revert h' g'
    unfold wrN wrK
    show t.drop n = bs ++ (91 :: ((bif kindN s == 3 then s else quoteS s) ++ [93])) ++ rest → GoodR t (n + bs.length + (91 :: ((bif kindN s == 3 then s else quoteS s) ++ [93])).length) rows → GoodR t n (rows3 (bif kindN s == 3 then 3 else 4) s (bif kindN s == 3 then s else quoteS s) (n + bs.length) ++ rows)
    cases e : kindN s == 3 with
    | true => exact nest (fun r hr => lex_digits (stand_digit (beq_iff_eq.mp e)) hr) (by decide) fun z' z' z' => rd_digits
    | false => exact nest (fun r hr => ⟨lex_quote hs, fun e => nomatch e⟩) (by decide) fun z' z' h => rd_quote hs hy ht h
  | 2, _ => exact nest (k := 6) (v := 0) (m := 96 :: (tplS s ++ [96])) (fun r hr => ⟨lex_tpl hs, fun e => nomatch e⟩) (by decide) (fun z' z' h => rd_tpl hs hy ht h) (by rw [List.append_assoc]; exact h) g
end
noncomputable def tailT (bl : List Nat) : List Item → List Nat
  | [] => []
  | i :: is => 44 :: (bl ++ (wrT i.1 i.2 ++ tailT bl is))
noncomputable def tailR (bl : List Nat) : Nat → List Item → List Row
  | _, [] => []
  | n, i :: is => (5, [44], n, n + 1) :: (wrR i.1 (n + 1 + bl.length) i.2 ++ tailR bl (n + 1 + bl.length + (wrT i.1 i.2).length) is)
theorem tail_after (bl : List Nat) : ∀ is : List Item, After (tailT bl is)
  | [] => ⟨trivial, rfl⟩
  | i :: is => ⟨⟨rfl, rfl, rfl, rfl⟩, rfl⟩
theorem good_tail {t bl : List Nat} (ht : t.length + 2 ≤ SZ) (hb : bl.all isB = true) : ∀ {is : List Item} {n : Nat}, (∀ i ∈ is, ItOk i) → t.drop n = tailT bl is → n ≤ t.length → GoodR t n (tailR bl n is)
  | [], n, _, h, hn => ⟨Good.fin (Nat.le_antisymm (drop_end h) hn), fun z' h => nomatch h⟩
  | i :: is, n, hi, h, hn => by
    have h1 : t.drop (n + 1) = bl ++ (wrT i.1 i.2 ++ tailT bl is) := drop_succ h
    have h2 : t.drop (n + 1 + bl.length + (wrT i.1 i.2).length) = tailT bl is := drop_add (drop_add h1)
    refine good_sign (bs := []) (.inr (.inr (.inl rfl))) h rfl (good_item (hi i List.mem_cons_self) ht h1 hb (tail_after bl is) (good_tail ht hb (fun j hj => hi j (List.mem_cons_of_mem _ hj)) h2 ?_))
    show n + 1 + bl.length + (wrT i.1 i.2).length ≤ t.length
    have := congrArg List.length h
    rw [List.length_drop, tailT, List.length_cons, List.length_append, List.length_append] at this
    omega
theorem good_all {t bl : List Nat} {i : Item} {is : List Item} (ht : t.length + 2 ≤ SZ) (hb : bl.all isB = true) (hi : ∀ j ∈ i :: is, ItOk j) (h : t = bl ++ (wrT i.1 i.2 ++ tailT bl is)) : GoodR t 0 (wrR i.1 bl.length i.2 ++ tailR bl (bl.length + (wrT i.1 i.2).length) is) := by
  have h0 : t.drop 0 = bl ++ (wrT i.1 i.2 ++ tailT bl is) := h
  have h2 : t.drop (bl.length + (wrT i.1 i.2).length) = tailT bl is := by
    have := drop_add (drop_add h0); rw [Nat.zero_add] at this; exact this
  have := good_item (hi i List.mem_cons_self) ht h0 hb (tail_after bl is) (rows := tailR bl (bl.length + (wrT i.1 i.2).length) is) (by
    rw [Nat.zero_add]
    refine good_tail ht hb (fun j hj => hi j (List.mem_cons_of_mem _ hj)) h2 ?_
    have := congrArg List.length h
    rw [List.length_append, List.length_append] at this
    omega)
  rw [Nat.zero_add] at this; exact this
end

section

abbrev TW := List Nat × List Row
noncomputable def addC (bl : List Nat) (S : TW) : TW := bif S.2.isEmpty then S else (S.1 ++ 44 :: bl, S.2 ++ [(5, [44], S.1.length, S.1.length + 1)])
noncomputable def putR (S : TW) (i : Item) : TW := (S.1 ++ wrT i.1 i.2, S.2 ++ wrR i.1 S.1.length i.2)
noncomputable def putI (bl : List Nat) (S : TW) (i : Item) : TW := putR (addC bl S) i
noncomputable def items : List Item → List Item
  | [] => []
  | p :: ps => (p.1, 0) :: (p.1, p.2) :: items ps
section
variable {bl : List Nat}
theorem wr_ne {s : List Nat} {a w : Nat} : (wrR s a w).isEmpty = false := by
  match w with
  | 0 => rfl
  | w + 1 => rfl
theorem put_ne {S : TW} {i : Item} : (putI bl S i).2.isEmpty = false := by
  show ((addC bl S).2 ++ wrR i.1 (addC bl S).1.length i.2).isEmpty = false
  cases (addC bl S).2 with
  | nil => exact wr_ne
  | cons => rfl
theorem fold_tail : ∀ {is : List Item} {S : TW}, S.2.isEmpty = false → is.foldl (putI bl) S = (S.1 ++ tailT bl is, S.2 ++ tailR bl S.1.length is)
  | [], S, _ => Prod.ext (List.append_nil _).symm (List.append_nil _).symm
  | i :: is, S, h => by
    show is.foldl (putI bl) (putI bl S i) = _
    rw [fold_tail put_ne]
    unfold putI addC
    rw [h]
    show ((S.1 ++ 44 :: bl ++ wrT i.1 i.2) ++ tailT bl is, (S.2 ++ [(5, [44], S.1.length, S.1.length + 1)] ++ wrR i.1 (S.1 ++ 44 :: bl).length i.2) ++ tailR bl (S.1 ++ 44 :: bl ++ wrT i.1 i.2).length is) = (S.1 ++ 44 :: (bl ++ (wrT i.1 i.2 ++ tailT bl is)), S.2 ++ (5, [44], S.1.length, S.1.length + 1) :: (wrR i.1 (S.1.length + 1 + bl.length) i.2 ++ tailR bl (S.1.length + 1 + bl.length + (wrT i.1 i.2).length) is))
    rw [List.length_append (as := S.1 ++ 44 :: bl), List.length_append, List.length_cons, show S.1.length + (bl.length + 1) = S.1.length + 1 + bl.length by omega]
    simp only [List.append_assoc, List.cons_append, List.nil_append]
theorem fold_all {i : Item} {is : List Item} : (i :: is).foldl (putI bl) (bl, []) = (bl ++ (wrT i.1 i.2 ++ tailT bl is), wrR i.1 bl.length i.2 ++ tailR bl (bl.length + (wrT i.1 i.2).length) is) := by
  show is.foldl (putI bl) (bl ++ wrT i.1 i.2, wrR i.1 bl.length i.2) = _
  rw [fold_tail (S := (bl ++ wrT i.1 i.2, wrR i.1 bl.length i.2)) wr_ne, List.length_append, List.append_assoc]
theorem wr_len {i : Item} (hi : ItOk i) (a : Nat) : (wrT i.1 i.2).length ≤ 170 ∧ (wrR i.1 a i.2).length ≤ 3 := by
  obtain ⟨s, w⟩ := i
  obtain ⟨_, hz, hw⟩ := hi
  have hz : s.length ≤ 40 := hz
  have hq := quoteS_len s
  have ht := tplS_len s
  match w, hw with
  | 0, _ =>
    refine ⟨?_, (by decide : 1 ≤ 3)⟩
    show (keyS s).length ≤ 170
    unfold keyS
    cases standsB s || digitsB s <;> simp only [cond_true, cond_false] <;> omega
  | 1, _ =>
    refine ⟨?_, (by decide : 3 ≤ 3)⟩
    show (91 :: ((bif kindN s == 3 then s else quoteS s) ++ [93])).length ≤ 170
    rw [List.length_cons, List.length_append, List.length_singleton]
    cases kindN s == 3 <;> simp only [cond_true, cond_false] <;> omega
  | 2, _ =>
    refine ⟨?_, (by decide : 3 ≤ 3)⟩
    show (91 :: ((96 :: (tplS s ++ [96])) ++ [93])).length ≤ 170
    rw [List.length_cons, List.length_append, List.length_cons, List.length_append, List.length_singleton, List.length_singleton]
    omega
end
noncomputable def f_law_keys : Fn := trunc 0 (runF T69 17 3 n_law_keys)
noncomputable abbrev kσ (a b : Nat) (bl T : List Nat) (o : Nat) (pl w x y : V) : List V := [.ref a, .ref b, .str (44 :: bl), .str T, .ref o, pl, w, x, y, .undef, .undef, .undef, .undef, .undef, .undef, .undef, .undef]
section
variable {H : Hp} {a b n w : Nat} {bl s : List Nat} {names ways : List V} {S : TW} {gs : List O} {x y : V} {K B : List V → Ms} {R : V → List V → Ms}
theorem ap_set0 {H : Hp} {l : List O} {y : O} : (H ++ l).set H.length y = H ++ l.set 0 y := ap_set (i := 0)
theorem extend_ok {G : Hp} {o r : Nat} {l k : List V} (ho : G[o]? = some (.list l)) (hr : G[r]? = some (.list k)) (hne : o ≠ r) (hz : l.length + k.length ≤ SZ) : bmeth (.ref o) 1 [.ref r] G = some (.none, G.set o (.list (l ++ k))) :=
  (hB_of (lst_ref ho)).trans ((hB_of (lst_ref hr)).trans ((gd_H (show o ≠ r ∧ l.length + k.length ≤ SZ from ⟨hne, hz⟩)).trans rfl))
noncomputable abbrev kH (H : Hp) (S : TW) (gs : List O) : Hp := H ++ (.list (S.2.map rowV) :: gs)
theorem kb_item (hi : ItOk (s, w)) (ha : H[a]? = some (.list names)) (hs : names[n]? = some (.str s)) (h1 : S.1.length ≤ 90000) (h2 : S.2.length ≤ 90000) :
    ∃ gs' x' y', execKs T69 (tlN n_law_keys_L4b) (kσ a b bl S.1 H.length (.int n) (.int w) x y) K B R (kH H S gs) = K (kσ a b bl (putR S (s, w)).1 H.length (.int n) (.int w) x' y') (kH H (putR S (s, w)) gs') := by
  have z : SZ = 100000 := rfl
  have l1 : (wrT s w).length ≤ 170 := (wr_len hi S.1.length).1
  have l2 : (wrR s S.1.length w).length ≤ 3 := (wr_len hi S.1.length).2
  refine ⟨gs ++ [.list ((wrR s S.1.length w).map rowV)], .str (wrT s w), .ref (kH H S gs).length, ?_⟩
  refine (show _ = bnd (idxV (.ref a) (.int n)) (fun v => bnd (f_law_written [v, .int w, .int (S.1.length : Nat)]) fun v => oB (bindT (.inl [7, 8]) v (kσ a b bl S.1 H.length (.int n) (.int w) x y)) fun σ => execKs T69 (tlN (tlN n_law_keys_L4b)) σ K B R) (kH H S gs) by kernel_rfl).trans ?_
  refine (bnd_of (idx_ref (ap_old ha) (place_nat (List.getElem?_eq_some_iff.mp hs).1) hs)).trans ((bnd_of (written_ok (Nat.le_trans hi.2.1 (by decide)) hi.2.2)).trans ?_)
  refine (show _ = bnd (addV (.str S.1) (.str (wrT s w))) (fun v => hB (recvK (.ref H.length) 1) fun f => bnd (methV T69 f (.ref H.length) 1 [.ref (kH H S gs).length]) fun z' => K [.ref a, .ref b, .str (44 :: bl), v, .ref H.length, .int n, .int w, .str (wrT s w), .ref (kH H S gs).length, .undef, .undef, .undef, .undef, .undef, .undef, .undef, .undef]) (kH H S gs ++ [.list ((wrR s S.1.length w).map rowV)]) by kernel_rfl).trans ?_
  have ho : (kH H S gs ++ [O.list ((wrR s S.1.length w).map rowV)])[H.length]? = some (.list (S.2.map rowV)) := ap_old (ap_get (i := 0) rfl)
  refine (bnd_of (adds (by rw [z]; omega))).trans ((hB_of (recv_list ho (by decide))).trans ((bnd_of (show methV T69 none (.ref H.length) 1 [.ref (kH H S gs).length] _ = _ from extend_ok ho get_new (Nat.ne_of_lt (by rw [List.length_append]; exact Nat.lt_add_of_pos_right (Nat.succ_pos _))) (by rw [List.length_map, List.length_map, z]; omega))).trans ?_))
  rw [List.append_assoc, ← List.map_append, ap_set0]; rfl
theorem kb_turn (hb : bl.length ≤ 2) (h1 : S.1.length ≤ 80000) (h2 : S.2.length ≤ 80000) :
    execKs T69 n_law_keys_L4b (kσ a b bl S.1 H.length (.int n) (.int w) x y) K B R (kH H S gs) = execKs T69 (tlN n_law_keys_L4b) (kσ a b bl (addC bl S).1 H.length (.int n) (.int w) x y) K B R (kH H (addC bl S) gs) := by
  have z : SZ = 100000 := rfl
  have ho : (kH H S gs)[H.length]? = some (.list (S.2.map rowV)) := ap_get (i := 0) rfl
  let next (S : TW) : Ms := execKs T69 (tlN n_law_keys_L4b) (kσ a b bl S.1 H.length (.int n) (.int w) x y) K B R
  let X : Ms := hB (recvK (.ref H.length) 0) fun f => bnd (methV T69 f (.ref H.length) 0 [rowV (5, [44], S.1.length, S.1.length + 1)]) fun z' => bnd (addV (.str S.1) (.str (44 :: bl))) fun v => execKs T69 (tlN n_law_keys_L4b) [.ref a, .ref b, .str (44 :: bl), v, .ref H.length, .int n, .int w, x, y, .undef, .undef, .undef, .undef, .undef, .undef, .undef, .undef] K B R
  have hX : X (kH H S gs) = execKs T69 (tlN n_law_keys_L4b) (kσ a b bl (S.1 ++ 44 :: bl) H.length (.int n) (.int w) x y) K B R (kH H (S.1 ++ 44 :: bl, S.2 ++ [(5, [44], S.1.length, S.1.length + 1)]) gs) := by
    refine (append_K ho (by rw [List.length_map, z]; omega)).trans ((bnd_of (adds (by rw [z, List.length_cons]; omega))).trans ?_)
    rw [show S.2.map rowV ++ [rowV (5, [44], S.1.length, S.1.length + 1)] = (S.2 ++ [(5, [44], S.1.length, S.1.length + 1)]).map rowV by rw [List.map_append]; rfl]
    rw [ap_set0]; rfl
  refine (show _ = bnd (biV .len [.ref H.length]) (fun v => hB (cmpB .Gt v (.int ((0 : Nat) : Int))) fun r => bM r X (execKs T69 (tlN n_law_keys_L4b) (kσ a b bl S.1 H.length (.int n) (.int w) x y) K B R)) (kH H S gs) by kernel_rfl).trans ((bnd_of (len_ref ho)).trans ?_)
  refine (show _ = bM (decide ((((S.2.map rowV).length : Nat) : Int) > ((0 : Nat) : Int))) X (execKs T69 (tlN n_law_keys_L4b) (kσ a b bl S.1 H.length (.int n) (.int w) x y) K B R) (kH H S gs) from rfl).trans ?_
  rw [show decide ((((S.2.map rowV).length : Nat) : Int) > ((0 : Nat) : Int)) = !S.2.isEmpty from ?_]
  rotate_left
  · cases S.2 with
    | nil => rfl
    | cons => exact decide_eq_true (Int.ofNat_lt.mpr (Nat.succ_pos _))
  unfold addC
  cases S.2.isEmpty with
  | true => rfl
  | false => exact (congrFun (bM_t rfl) _).trans hX
theorem addC_len (hb : bl.length ≤ 2) (S : TW) : (addC bl S).1.length ≤ S.1.length + 3 ∧ (addC bl S).2.length ≤ S.2.length + 1 := by
  unfold addC
  cases S.2.isEmpty with
  | true => exact ⟨Nat.le_add_right _ _, Nat.le_add_right _ _⟩
  | false => exact ⟨by show (S.1 ++ 44 :: bl).length ≤ _; rw [List.length_append, List.length_cons]; exact Nat.add_le_add_left (Nat.succ_le_succ hb) _, by show (S.2 ++ [_]).length ≤ _; rw [List.length_append, List.length_singleton]; exact Nat.le_refl _⟩
theorem putI_len (hb : bl.length ≤ 2) (S : TW) {i : Item} (hi : ItOk i) : (putI bl S i).1.length ≤ S.1.length + 173 ∧ (putI bl S i).2.length ≤ S.2.length + 4 := by
  have h1 := addC_len hb S
  have h2 := wr_len hi (addC bl S).1.length
  show ((addC bl S).1 ++ wrT i.1 i.2).length ≤ _ ∧ ((addC bl S).2 ++ wrR i.1 (addC bl S).1.length i.2).length ≤ _
  rw [List.length_append, List.length_append]
  exact ⟨by omega, by omega⟩
theorem kb_two {pw : Nat} {x6 x7 x8 : V} (hb : bl.length ≤ 2) (i0 : ItOk (s, 0)) (i1 : ItOk (s, pw)) (ha : H[a]? = some (.list names)) (hs : names[n]? = some (.str s)) (z1 : S.1.length ≤ 70000) (z2 : S.2.length ≤ 70000) :
    ∃ gs' x7' x8', forN (.inr 6) (.tup [.int ((0 : Nat) : Int), .int (pw : Nat)]) (execSs T69 n_law_keys_L4b) FUEL 0 (kσ a b bl S.1 H.length (.int n) x6 x7 x8) (kH H S gs) = some ((.next, kσ a b bl (putI bl (putI bl S (s, 0)) (s, pw)).1 H.length (.int n) (.int pw) x7' x8'), kH H (putI bl (putI bl S (s, 0)) (s, pw)) gs') := by
  have p1 := putI_len hb S i0
  have c1 := addC_len hb S
  have c2 := addC_len hb (putI bl S (s, 0))
  let f : Nat → Nat → List V → Ms := fun k j => forN (.inr 6) (.tup [.int ((0 : Nat) : Int), .int (pw : Nat)]) (execSs T69 n_law_keys_L4b) k j
  obtain ⟨g1, y1, y2, e1⟩ := kb_item (H := H) (b := b) (bl := bl) (S := addC bl S) (gs := gs) (n := n) (w := 0) (x := x7) (y := x8) (K := f 999999 1) (B := fun σ => ret (.next, σ)) (R := fun v σ => ret (.rtn v, σ)) i0 ha hs (by omega) (by omega)
  obtain ⟨g2, y3, y4, e2⟩ := kb_item (H := H) (b := b) (bl := bl) (S := addC bl (putI bl S (s, 0))) (gs := g1) (n := n) (w := pw) (x := y1) (y := y2) (K := f 999998 2) (B := fun σ => ret (.next, σ)) (R := fun v σ => ret (.rtn v, σ)) i1 ha hs (by omega) (by omega)
  exact ⟨g2, y3, y4, for_le _ _ ((kb_turn hb (by omega) (by omega)).trans (e1.trans (for_le _ _ ((kb_turn (S := putI bl S (s, 0)) hb (by omega) (by omega)).trans (e2.trans (for_le _ _ rfl))))))⟩
theorem kb_loop {nw : List Item} (hi : ∀ p ∈ nw, ItOk (p.1, 0) ∧ ItOk p) (hb : bl.length ≤ 2) (hn : nw.length ≤ 40) (ha : H[a]? = some (.list (nw.map fun p => .str p.1))) (hw : H[b]? = some (.list (nw.map fun p => .int (p.2 : Nat)))) :
    ∃ gs x5 x6 x7 x8, forN (.inr 5) (.rng 0 (nw.length : Nat)) (execSs T69 n_law_keys_L5b) FUEL 0 (kσ a b bl bl H.length .undef .undef .undef .undef) (kH H (bl, []) []) = some ((.next, kσ a b bl ((items nw).foldl (putI bl) (bl, [])).1 H.length x5 x6 x7 x8), kH H ((items nw).foldl (putI bl) (bl, [])) gs) := by
  obtain ⟨z, h, e⟩ := for_range (T := T69) (t := 5) (b := n_law_keys_L5b) (c := nw.length) (α := (TW × List O) × V × V × V × V) (fun z' z => kσ a b bl z.1.1.1 H.length z.2.1 z.2.2.1 z.2.2.2.1 z.2.2.2.2) (fun z' z => kH H z.1.1 z.1.2)
    (fun n z => (items (nw.drop n)).foldl (putI bl) z.1.1 = (items nw).foldl (putI bl) (bl, []) ∧ z.1.1.1.length ≤ 2 + 400 * n ∧ z.1.1.2.length ≤ 8 * n)
    (fun n z hlt h => by
      have hd := List.drop_eq_getElem_cons hlt
      have hi := hi nw[n] (List.getElem_mem hlt)
      have hs : (nw.map fun p : Item => V.str p.1)[n]? = some (.str nw[n].1) := by rw [List.getElem?_map, List.getElem?_eq_getElem hlt]; rfl
      have hwv : (nw.map fun p : Item => V.int (p.2 : Nat))[n]? = some (.int (nw[n].2 : Nat)) := by rw [List.getElem?_map, List.getElem?_eq_getElem hlt]; rfl
      rw [hd] at h
      generalize nw[n] = p at hi hs hwv h
      have p1 := putI_len hb z.1.1 hi.1
      have p2 := putI_len hb (putI bl z.1.1 (p.1, 0)) hi.2
      obtain ⟨g, y7, y8, e⟩ := kb_two (H := H) (b := b) (gs := z.1.2) (x6 := z.2.2.1) (x7 := z.2.2.2.1) (x8 := z.2.2.2.2) (pw := p.2) hb hi.1 hi.2 ha hs (S := z.1.1) (by omega) (by omega)
      refine ⟨((putI bl (putI bl z.1.1 (p.1, 0)) p, g), .int n, .int p.2, y7, y8), ⟨h.1, by show (putI bl (putI bl z.1.1 (p.1, 0)) p).1.length ≤ _; omega, by show (putI bl (putI bl z.1.1 (p.1, 0)) p).2.length ≤ _; omega⟩, fun K B R => ?_⟩
      refine (show _ = bnd (idxV (.ref b) (.int n)) (fun w => bnd (forN (.inr 6) (.tup [.int ((0 : Nat) : Int), w]) (execSs T69 n_law_keys_L4b) FUEL 0 (kσ a b bl z.1.1.1 H.length (.int n) z.2.2.1 z.2.2.2.1 z.2.2.2.2)) fun r => selR r K B R) (kH H z.1.1 z.1.2) by kernel_rfl).trans ((bnd_of (idx_ref (ap_old hw) (place_nat (List.getElem?_eq_some_iff.mp hwv).1) hwv)).trans ?_)
      exact (bnd_of e).trans rfl)
    (((bl, []), []), .undef, .undef, .undef, .undef) ⟨rfl, Nat.le_trans hb (Nat.le_add_right _ _), Nat.zero_le _⟩ (Nat.lt_of_le_of_lt hn (by decide))
  have h1 : z.1.1 = (items nw).foldl (putI bl) (bl, []) := by rw [← h.1, List.drop_length]; rfl
  rw [h1] at e
  exact ⟨z.1.2, z.2.1, z.2.2.1, z.2.2.2.1, z.2.2.2.2, e⟩
end
end

section

theorem ne_same {a : List V} {H : Hp} {α : Type} {X Y : M α} (h : eqPs a a = true) : hB (cmpB .NotEq (.tup a) (.tup a)) (fun r => bM r X Y) H = Y H := by
  refine (hB_of (show cmpB .NotEq (.tup a) (.tup a) H = some false from ?_)).trans rfl
  show (oO (sure (eqPs a a)) _).map (!·) = _
  rw [h]; rfl
theorem ne_str {s : List Nat} {H : Hp} {α : Type} {X Y : M α} : hB (cmpB .NotEq (.str s) (.str s)) (fun r => bM r X Y) H = Y H := by
  refine (hB_of (show cmpB .NotEq (.str s) (.str s) H = some false from ?_)).trans rfl
  show some (!(s == s)) = _
  rw [beq_self_eq_true]; rfl
theorem eq3 {x : List Nat} {e : Nat} {v : V} (h : (eqP v v).getD false = true) : eqPs [.str x, .int e, v] [.str x, .int e, v] = true := by
  show ((x == x) && (((e : Int) == e) && ((eqP v v).getD false && true))) = true
  rw [beq_self_eq_true, beq_self_eq_true, h]; rfl
section
variable {H G : Hp} {a b o tl : Nat} {bl t : List Nat} {x5 x6 x7 x8 : V} {rows : List Row}
noncomputable abbrev kτ (a b : Nat) (bl T : List Nat) (o : Nat) (x5 x6 x7 x8 : V) (tl : Nat) (u v w x y : V) : List V := [.ref a, .ref b, .str (44 :: bl), .str T, .ref o, x5, x6, x7, x8, .ref tl, u, v, w, x, y, .undef, .undef]
theorem rd_turn {r : Row} {u v w x y : V} {K B : List V → Ms} {R : V → List V → Ms} (hr : RdOk t r) (hx : r.2.1.length ≤ SZ) :
    execKs T69 n_law_keys_L7b (kτ a b bl t o x5 x6 x7 x8 tl (.int (r.1 : Nat)) (.str r.2.1) (.int (r.2.2.1 : Nat)) (.int (r.2.2.2 : Nat)) y) K B R G = K (kτ a b bl t o x5 x6 x7 x8 tl (.int (r.1 : Nat)) (.str r.2.1) (.int (r.2.2.1 : Nat)) (.int (r.2.2.2 : Nat)) (.bool (!farB r.2.1))) G := by
  obtain ⟨k, x, n, e⟩ := r
  let σ := kτ a b bl t o x5 x6 x7 x8 tl (.int (k : Nat)) (.str x) (.int (n : Nat)) (.int (e : Nat)) (.bool (!farB x))
  refine (show _ = bnd (f_law_beyond [.str x]) (fun v => bnd (truthyM v) fun b0 => execKs T69 (tlN n_law_keys_L7b) (kτ a b bl t o x5 x6 x7 x8 tl (.int (k : Nat)) (.str x) (.int (n : Nat)) (.int (e : Nat)) (.bool (!b0))) K B R) G by kernel_rfl).trans ((bnd_of (beyond_ok hx)).trans ?_)
  let bad (n : N) : Ms := execKs T69 (.cons (.rtn (.lit (.bool .false))) .nil) σ (fun σ => execKs T69 n σ K B R) B R
  let last : Ms := bM ((k : Int) == ((6 : Nat) : Int)) (bnd (f_read_template [.str t, .int n]) fun v => bM (!farB x) (hB (cmpB .NotEq v (.tup [.str x, .int e, .int ((1 : Nat) : Int)])) fun r => bM r (bad .nil) (K σ)) (hB (cmpB .NotEq v (.tup [.str x, .int e, .int ((2 : Nat) : Int)])) fun r => bM r (bad .nil) (K σ))) (K σ)
  have hlast : last G = K σ G := by
    by_cases h6 : k = 6
    · subst h6
      refine (show _ = bnd (f_read_template [.str t, .int n]) (fun v => bM (!farB x) (hB (cmpB .NotEq v (.tup [.str x, .int e, .int ((1 : Nat) : Int)])) fun r => bM r (bad .nil) (K σ)) (hB (cmpB .NotEq v (.tup [.str x, .int e, .int ((2 : Nat) : Int)])) fun r => bM r (bad .nil) (K σ))) G from congrFun (bM_t rfl) G).trans ((bnd_of (hr.2 rfl G)).trans ?_)
      show bM (!farB x) (hB (cmpB .NotEq (.tup [.str x, .int e, .int (bif farB x then (2 : Nat) else (1 : Nat) : Nat)]) (.tup [.str x, .int e, .int ((1 : Nat) : Int)])) fun r => bM r (bad .nil) (K σ)) (hB (cmpB .NotEq (.tup [.str x, .int e, .int (bif farB x then (2 : Nat) else (1 : Nat) : Nat)]) (.tup [.str x, .int e, .int ((2 : Nat) : Int)])) fun r => bM r (bad .nil) (K σ)) G = _
      generalize K σ = kk
      generalize bad .nil = bb
      cases farB x with
      | true => exact (congrFun (bM_f rfl) G).trans (ne_same (eq3 rfl))
      | false => exact (congrFun (bM_t rfl) G).trans (ne_same (eq3 rfl))
    · exact congrFun (bM_f (beq_eq_false_iff_ne.mpr fun h => h6 (Int.ofNat_inj.mp h))) G
  refine (show _ = bM ((k : Int) == ((4 : Nat) : Int)) (bnd (idxV (.str t) (.int n)) fun v => hB (cmpB .Eq v (.str [34])) fun r => bM r (bnd (f_read_string [.str t, .int n]) fun v => hB (cmpB .NotEq v (.tup [.str x, .int e, .bool (!farB x)])) fun r => bM r (bad (tlN (tlN n_law_keys_L7b))) last) last) last G by kernel_rfl).trans ?_
  by_cases h4 : k = 4
  · subst h4
    obtain ⟨⟨s, hs⟩, hr⟩ := hr.1 rfl
    refine (congrFun (bM_t rfl) G).trans ((bnd_of (show idxV (.str t) (.int n) G = some (.str [34], G) from congrFun (idx_str hs) G)).trans ((hB_of (show cmpB .Eq (.str [34]) (.str [34]) G = some true from rfl)).trans ((congrFun (bM_t rfl) G).trans ((bnd_of (hr G)).trans ((ne_same (eq3 ?_)).trans hlast)))))
    show ((!farB x) == (!farB x)) = true
    exact beq_self_eq_true _
  · exact (congrFun (bM_f (beq_eq_false_iff_ne.mpr fun h => h4 (Int.ofNat_inj.mp h))) G).trans hlast
theorem rdr_loop (hr : ∀ r ∈ rows, RdOk t r) (hx : ∀ r ∈ rows, r.2.1.length ≤ SZ) (ho : G[o]? = some (.list (rows.map rowV))) (hz : rows.length < FUEL) :
    ∃ u v w x y, forN (.inl [10, 11, 12, 13]) (.ref o) (execSs T69 n_law_keys_L7b) FUEL 0 (kτ a b bl t o x5 x6 x7 x8 tl .undef .undef .undef .undef .undef) G = some ((.next, kτ a b bl t o x5 x6 x7 x8 tl u v w x y), G) := by
  obtain ⟨σ', G', e, ⟨u, v, w, x, y, rfl, rfl⟩⟩ := for_run (T := T69) (o := .ref o) (vs := rows.map rowV) (t := .inl [10, 11, 12, 13]) (b := n_law_keys_L7b)
    (I := fun n σ G' => ∃ u v w x y, σ = kτ a b bl t o x5 x6 x7 x8 tl u v w x y ∧ G' = G)
    (fun n σ G' ⟨_, _, _, _, _, _, h⟩ => by rw [h]; exact item_ref ho)
    (fun n v σ G' ⟨u0, v0, w0, x0, y0, hσ, hG⟩ hv => by
      subst hσ hG
      rw [List.getElem?_map] at hv
      obtain ⟨r, hm, rfl⟩ := Option.map_eq_some_iff.mp hv
      have hm := List.mem_of_getElem? hm
      exact ⟨_, _, G', rfl, ⟨_, _, _, _, _, rfl, rfl⟩, fun K B R => rd_turn (u := u0) (v := v0) (w := w0) (x := x0) (hr r hm) (hx r hm)⟩)
    FUEL 0 _ G ⟨.undef, .undef, .undef, .undef, .undef, rfl, rfl⟩ (Nat.zero_le _) (by rw [List.length_map, Nat.zero_add]; exact hz)
  exact ⟨u, v, w, x, y, e⟩
end
theorem slc_ref {G : Hp} {o : Nat} {vs : List V} (h : G[o]? = some (.list vs)) : slcV (.ref o) .none .none G = some (.ref G.length, G ++ [.list vs]) := by
  refine (orM_none rfl).trans ((orM_none rfl).trans ((hB_of (lst_ref h)).trans ?_))
  show newL (cut vs 0 vs.length) G = _
  rw [show cut vs 0 vs.length = vs by unfold cut; rw [List.take_length]; rfl]; rfl
theorem parser_new {E : Hp} {tl r : Nat} {out : List V} (h : E[tl]? = some (.list out)) : ∃ ws, f_Parser [.ref tl, dgs r] E = some (.ref (E.length + 5), E ++ [.list out, .list [], .list [], .list [], .list [], prs E.length 0 ws]) := by
  have e : ∀ G : Hp, ∃ ws, bnd (bnd (evalEs T56 (tlN n_Parser) [.undef, .ref tl, dgs r]) fun vs => ret (.ref E.length :: vs)) (mkV false 742) G = some (V.ref (G ++ [O.list []] ++ [O.list []] ++ [O.list []] ++ [O.list []]).length, G ++ [O.list []] ++ [O.list []] ++ [O.list []] ++ [O.list []] ++ [prs E.length 0 ws]) := fun G => ⟨[dgs r, .dict [] [], .dict [] [], .dict [] [], .dict [] [], .int ((0 : Nat) : Int), .tup [.str [], .int ((0 : Nat) : Int), .int ((0 : Nat) : Int)], .bool true, .int ((0 : Nat) : Int), .int ((0 : Nat) : Int), .int ((0 : Nat) : Int), .ref G.length, .bool false, .bool false, .int ((0 : Nat) : Int), .ref (G ++ [O.list []]).length, .dict [] [], .dict [] [], .ref (G ++ [O.list []] ++ [O.list []]).length, .ref (G ++ [O.list []] ++ [O.list []] ++ [O.list []]).length], by kernel_rfl⟩
  obtain ⟨ws, e⟩ := e (E ++ [O.list out])
  refine ⟨ws, (show _ = bnd (bnd (slcV (.ref tl) .none .none) fun v => bnd (evalEs T56 (tlN n_Parser) [.undef, .ref tl, dgs r]) fun vs => ret (v :: vs)) (mkV false 742) E by kernel_rfl).trans ?_⟩
  rw [bnd_assoc]
  refine (bnd_of (slc_ref h)).trans (e.trans ?_)
  rw [show (E ++ [O.list out] ++ [O.list []] ++ [O.list []] ++ [O.list []] ++ [O.list []]).length = E.length + 5 by simp only [List.length_append, List.length_cons, List.length_nil], show ∀ x : O, E ++ [O.list out] ++ [O.list []] ++ [O.list []] ++ [O.list []] ++ [O.list []] ++ [x] = E ++ [.list out, .list [], .list [], .list [], .list [], x] from fun x => by simp only [List.append_assoc, List.cons_append, List.nil_append]]
theorem toks_get {z : Nat} {rows : List Row} {out : List V} (h : Toks z rows out) : ∀ {i : Nat}, (∀ {k a e : Nat} {x : List Nat}, rows[i]? = some (k, x, a, e) → ∃ v l, out[i]? = some (tok k x v a e l)) ∧ ∃ l, out[rows.length]? = some (tok 0 [] 0 z z l) := by
  induction h with
  | nil => exact fun {i} => ⟨(fun h => nomatch h), _, rfl⟩
  | cons _ _ _ ih =>
    intro i
    refine ⟨fun {k a e x} h => ?_, (ih (i := 0)).2⟩
    match i, h with
    | 0, h => cases h; exact ⟨_, _, rfl⟩
    | i + 1, h => exact ih.1 h
theorem prop_item {z m p tl a w : Nat} {s : List Nat} {rows rest : List Row} {out ws : List V} {G : Hp} (hw : w ≤ 2) (ht : Toks z rows out) (hp : G[p]? = some (prs tl m ws)) (hl : G[tl]? = some (.list out)) (hne : tl ≠ p) (hd : rows.drop m = wrR s a w ++ rest) :
    ∃ m', f_read_prop [.ref p] G = some (.str s, G.set p (prs tl m' ws)) ∧ rows.drop m' = rest ∧ m' ≤ rows.length := by
  have at' : ∀ {j : Nat} {r : Row} {l : List Row}, rows.drop j = r :: l → rows[j]? = some r ∧ rows.drop (j + 1) = l ∧ j + 1 ≤ rows.length := fun {j r l} h => by
    have h1 : rows[j]? = some r := by rw [← List.head?_drop, h]; rfl
    exact ⟨h1, by rw [← List.drop_drop, h]; rfl, (List.getElem?_eq_some_iff.mp h1).1⟩
  have three : ∀ {k : Nat} {nn : List Nat}, (k = 3 ∨ k = 4 ∨ k = 6) → rows.drop m = rows3 k s nn a ++ rest → ∃ m', f_read_prop [.ref p] G = some (.str s, G.set p (prs tl m' ws)) ∧ rows.drop m' = rest ∧ m' ≤ rows.length := fun hk hd => by
    obtain ⟨a1, b1, _⟩ := at' hd
    obtain ⟨a2, b2, _⟩ := at' b1
    obtain ⟨a3, b3, c3⟩ := at' b2
    obtain ⟨v1, l1, g1⟩ := (toks_get ht).1 a1
    obtain ⟨v2, l2, g2⟩ := (toks_get ht).1 a2
    obtain ⟨v3, l3, g3⟩ := (toks_get ht).1 a3
    exact ⟨m + 3, read_prop_lit hp hl hne g1 g2 g3 hk, b3, c3⟩
  match w, hw with
  | 0, _ =>
    obtain ⟨a1, b1, c1⟩ := at' hd
    obtain ⟨v1, l1, g1⟩ := (toks_get ht).1 a1
    refine ⟨m + 1, read_prop_ok hp hl g1 ?_, b1, c1⟩
    obtain ⟨h5, h0⟩ := kind_lt (s := s)
    generalize kindN s = k at h5 h0
    match k, h5 with
    | 0, _ => exact absurd rfl h0
    | 1, _ => rfl
    | 2, _ => rfl
    | 3, _ => rfl
    | 4, _ => rfl
  | 1, _ =>
    refine three ?_ hd
    show (bif kindN s == 3 then 3 else 4) = 3 ∨ (bif kindN s == 3 then 3 else 4) = 4 ∨ (bif kindN s == 3 then 3 else 4) = 6
    cases kindN s == 3 <;> decide
  | 2, _ => exact three (k := 6) (.inr (.inr rfl)) hd
end

section

theorem items_len : ∀ {nw : List Item}, (items nw).length = 2 * nw.length
  | [] => rfl
  | p :: ps => (congrArg (· + 2) (items_len (nw := ps))).trans (by rw [List.length_cons]; omega)
theorem items_get : ∀ {nw : List Item} {j : Nat} {i : Item}, (items nw)[j]? = some i → ∃ p, nw[j / 2]? = some p ∧ p.1 = i.1 ∧ (i.2 = 0 ∨ i.2 = p.2)
  | p :: ps, 0, i, h => by cases h; exact ⟨p, rfl, rfl, .inl rfl⟩
  | p :: ps, 1, i, h => by cases h; exact ⟨p, rfl, rfl, .inr rfl⟩
  | p :: ps, j + 2, i, h => by
    obtain ⟨q, h1, h2⟩ := items_get (nw := ps) (j := j) h
    exact ⟨q, by rw [show (j + 2) / 2 = j / 2 + 1 by omega]; exact h1, h2⟩
section
variable {E : Hp} {a b o tl p z : Nat} {bl t : List Nat} {x5 x6 x7 x8 u v w x y : V} {r2 : Nat} {nw : List Item} {rows : List Row} {out ws : List V}
noncomputable abbrev kp (a b : Nat) (bl t : List Nat) (o : Nat) (x6 x7 x8 : V) (tl : Nat) (u v w x y : V) (r2 p : Nat) (x5 : V) : List V := [.ref a, .ref b, .str (44 :: bl), .str t, .ref o, x5, x6, x7, x8, .ref tl, u, v, w, x, y, dgs r2, .ref p]
theorem pl_read {j m k : Nat} {i : Item} {rest : List Row} {G : Hp} {tk : Nat} (hw : i.2 ≤ 2) (ht : Toks z rows out) (hp : G[p]? = some (prs tk m ws)) (hl : G[tk]? = some (.list out)) (hne : tk ≠ p) (hd : rows.drop m = wrR i.1 k i.2 ++ rest) (ha : G[a]? = some (.list (nw.map fun p => .str p.1))) (hap : a ≠ p) (hj : (items nw)[j]? = some i) :
    ∃ m', rows.drop m' = rest ∧ m' ≤ rows.length ∧ ∀ (K B : List V → Ms) (R : V → List V → Ms), execKs T69 (tlN n_law_keys_L9b) (kp a b bl t o x6 x7 x8 tl u v w x y r2 p (.int j)) K B R G = K (kp a b bl t o x6 x7 x8 tl u v w x y r2 p (.int j)) (G.set p (prs tk m' ws)) := by
  obtain ⟨m', e, h1, h2⟩ := prop_item hw ht hp hl hne hd
  obtain ⟨q, hq, hs, _⟩ := items_get hj
  refine ⟨m', h1, h2, fun K B R => ?_⟩
  have hi : (nw.map fun p : Item => V.str p.1)[j / 2]? = some (.str i.1) := by rw [List.getElem?_map, hq, ← hs]; rfl
  refine (show _ = bnd (f_read_prop [.ref p]) (fun v1 => bnd (binV .FloorDiv (.int j) (.int ((2 : Nat) : Int))) fun d => bnd (idxV (.ref a) d) fun v2 => hB (cmpB .NotEq v1 v2) fun r => bM r (execKs T69 (.cons (.rtn (.lit (.bool .false))) .nil) (kp a b bl t o x6 x7 x8 tl u v w x y r2 p (.int j)) K B R) (K (kp a b bl t o x6 x7 x8 tl u v w x y r2 p (.int j)))) G by kernel_rfl).trans ((bnd_of e).trans ((bnd_of (div_nat (by decide) (by decide))).trans ((bnd_of (idx_ref (by rw [List.getElem?_set_ne (Ne.symm hap)]; exact ha) (place_nat (List.getElem?_eq_some_iff.mp hi).1) hi)).trans ne_str)))
theorem pl_head {j : Nat} {K B : List V → Ms} {R : V → List V → Ms} {G : Hp} (hp : ∃ vs, G[p]? = some (.inst 742 vs)) : execKs T69 n_law_keys_L9b (kp a b bl t o x6 x7 x8 tl u v w x y r2 p (.int j)) K B R G =
    bM (decide ((j : Int) > ((0 : Nat) : Int))) (bnd (f_eat_sign [.ref p, .str [44]]) fun v1 => bnd (truthyM v1) fun b0 => bM b0 (execKs T69 (tlN n_law_keys_L9b) (kp a b bl t o x6 x7 x8 tl u v w x y r2 p (.int j)) K B R) (execKs T69 (.cons (.rtn (.lit (.bool .false))) .nil) (kp a b bl t o x6 x7 x8 tl u v w x y r2 p (.int j)) (fun σ => execKs T69 (tlN n_law_keys_L9b) σ K B R) B R)) (execKs T69 (tlN n_law_keys_L9b) (kp a b bl t o x6 x7 x8 tl u v w x y r2 p (.int j)) K B R) G := by
  obtain ⟨vs, hp⟩ := hp
  refine (show _ = bM (decide ((j : Int) > ((0 : Nat) : Int))) (hB (recvK (.ref p) 13) fun g => bnd (methV T69 g (.ref p) 13 [.str [44]]) fun v1 => bnd (truthyM v1) fun b0 => bM b0 (execKs T69 (tlN n_law_keys_L9b) (kp a b bl t o x6 x7 x8 tl u v w x y r2 p (.int j)) K B R) (execKs T69 (.cons (.rtn (.lit (.bool .false))) .nil) (kp a b bl t o x6 x7 x8 tl u v w x y r2 p (.int j)) (fun σ => execKs T69 (tlN n_law_keys_L9b) σ K B R) B R)) (execKs T69 (tlN n_law_keys_L9b) (kp a b bl t o x6 x7 x8 tl u v w x y r2 p (.int j)) K B R) G by kernel_rfl).trans ?_
  cases decide ((j : Int) > ((0 : Nat) : Int)) with
  | false => rfl
  | true => exact (congrFun (bM_t rfl) G).trans ((hB_of (recv_ins hp rfl)).trans (congrFun (bM_t rfl) G).symm)
theorem pl_loop {i0 : Item} {is : List Item} {c c' tk : Nat} (hits : items nw = i0 :: is) (hok : ∀ i ∈ items nw, i.2 ≤ 2) (hrows : rows = wrR i0.1 c i0.2 ++ tailR bl c' is) (ht : Toks z rows out) (hp : E[p]? = some (prs tk 0 ws)) (hl : E[tk]? = some (.list out)) (hne : tk ≠ p) (ha : E[a]? = some (.list (nw.map fun p => .str p.1))) (hap : a ≠ p) (hn : nw.length ≤ 40) :
    ∃ x5', forN (.inr 5) (.rng 0 ((2 * nw.length : Nat) : Int)) (execSs T69 n_law_keys_L9b) FUEL 0 (kp a b bl t o x6 x7 x8 tl u v w x y r2 p x5) E = some ((.next, kp a b bl t o x6 x7 x8 tl u v w x y r2 p x5'), E.set p (prs tk rows.length ws)) := by
  have nx : ∀ {q : Nat} {y z : O}, E[q]? = some y → q ≠ p → (E.set p z)[q]? = some y := fun h hq => by rw [List.getElem?_set_ne (Ne.symm hq)]; exact h
  obtain ⟨z, h, e⟩ := for_range (T := T69) (t := 5) (b := n_law_keys_L9b) (c := 2 * nw.length) (α := V × Nat) (fun z' z => kp a b bl t o x6 x7 x8 tl u v w x y r2 p z.1) (fun z' z => E.set p (prs tk z.2 ws))
    (fun j z => z.2 ≤ rows.length ∧ (j = 0 ∧ z.2 = 0 ∨ 0 < j ∧ ∃ n, rows.drop z.2 = tailR bl n ((items nw).drop j)))
    (fun j z hlt h => by
      obtain ⟨x5, m⟩ := z
      have hlt' : j < (items nw).length := by rw [items_len]; exact hlt
      have hi : (items nw)[j]? = some (items nw)[j] := List.getElem?_eq_getElem hlt'
      have hw := hok _ (List.getElem_mem hlt')
      have hd := List.drop_eq_getElem_cons hlt'
      generalize (items nw)[j] = i at hi hw hd
      have rd := fun (m : Nat) (k : Nat) (rest : List Row) (hd : rows.drop m = wrR i.1 k i.2 ++ rest) => pl_read (b := b) (bl := bl) (t := t) (o := o) (x6 := x6) (x7 := x7) (x8 := x8) (tl := tl) (u := u) (v := v) (w := w) (x := x) (y := y) (r2 := r2) (G := E.set p (prs tk m ws)) hw ht (set_get hp) (nx hl hne) hne hd (nx ha hap) hap hi
      have hE : ∀ m m' : Nat, (E.set p (prs tk m ws)).set p (prs tk m' ws) = E.set p (prs tk m' ws) := fun m m' => List.set_set ..
      rcases h.2 with ⟨rfl, h0⟩ | ⟨hj, n, hn⟩
      · have h0 : m = 0 := h0
        subst h0
        rw [hits] at hd
        have hd := List.cons.inj hd
        obtain ⟨m', e1, e2, e3⟩ := rd 0 c (tailR bl c' is) (by rw [← hd.1]; exact hrows)
        exact ⟨(.int (0 : Nat), m'), ⟨e2, .inr ⟨Nat.succ_pos _, c', by rw [hits]; exact e1⟩⟩, fun K B R => (pl_head ⟨_, set_get hp⟩).trans ((congrFun (bM_f rfl) _).trans ((e3 K B R).trans (by rw [hE])))⟩
      · have hn : rows.drop m = _ := hn
        rw [hd] at hn
        have h1 : rows[m]? = some (5, [44], n, n + 1) := by rw [← List.head?_drop, hn]; rfl
        have h2 : rows.drop (m + 1) = wrR i.1 (n + 1 + bl.length) i.2 ++ tailR bl (n + 1 + bl.length + (wrT i.1 i.2).length) ((items nw).drop (j + 1)) := by rw [← List.drop_drop, hn]; rfl
        obtain ⟨v1, l1, g1⟩ := (toks_get ht).1 h1
        have he := eat_sign_ok (H := E.set p (prs tk m ws)) (set_get hp) (nx hl hne) g1
        rw [hE] at he
        obtain ⟨m', e1, e2, e3⟩ := rd (m + 1) _ _ h2
        exact ⟨(.int j, m'), ⟨e2, .inr ⟨Nat.succ_pos _, _, e1⟩⟩, fun K B R => (pl_head ⟨_, set_get hp⟩).trans ((congrFun (bM_t (decide_eq_true (Int.ofNat_lt.mpr hj))) _).trans ((bnd_of he).trans ((e3 K B R).trans (by rw [hE]))))⟩)
    (x5, 0) ⟨Nat.zero_le _, .inl ⟨rfl, rfl⟩⟩ (Nat.lt_of_le_of_lt (Nat.mul_le_mul_left 2 hn) (by decide))
  have hm' : z.2 = rows.length := by
    refine Nat.le_antisymm h.1 ?_
    rw [← items_len] at h
    rcases h.2 with ⟨h, _⟩ | ⟨_, n, h⟩
    · rw [hits] at h; cases h
    · rw [List.drop_length] at h; exact List.drop_eq_nil_iff.mp h
  rw [hm', set_same hp] at e
  exact ⟨z.1, e⟩
end
end

section

theorem items_all {P : Item → Prop} : ∀ {nw : List Item}, (∀ p ∈ nw, P (p.1, 0) ∧ P p) → ∀ i ∈ items nw, P i
  | p :: ps, h, i, hi => by
    obtain ⟨h0, h1⟩ := h p List.mem_cons_self
    rcases List.mem_cons.mp hi with rfl | hi
    · exact h0
    rcases List.mem_cons.mp hi with rfl | hi
    · exact h1
    · exact items_all (fun q hq => h q (List.mem_cons_of_mem _ hq)) i hi
theorem tail_len {bl : List Nat} (hb : bl.length ≤ 2) : ∀ {is : List Item} {n : Nat}, (∀ i ∈ is, ItOk i) → (tailT bl is).length ≤ 173 * is.length ∧ (tailR bl n is).length ≤ 4 * is.length
  | [], _, _ => ⟨Nat.zero_le _, Nat.zero_le _⟩
  | i :: is, n, h => by
    obtain ⟨a1, a2⟩ := wr_len (h i List.mem_cons_self) (n + 1 + bl.length)
    obtain ⟨b1, b2⟩ := tail_len hb (is := is) (n := n + 1 + bl.length + (wrT i.1 i.2).length) fun j hj => h j (List.mem_cons_of_mem _ hj)
    show (44 :: (bl ++ (wrT i.1 i.2 ++ tailT bl is))).length ≤ _ ∧ ((5, [44], n, n + 1) :: (wrR i.1 (n + 1 + bl.length) i.2 ++ tailR bl (n + 1 + bl.length + (wrT i.1 i.2).length) is)).length ≤ _
    rw [List.length_cons, List.length_cons, List.length_cons, List.length_append, List.length_append, List.length_append]
    omega
theorem slc_one {c : Nat} {bl : List Nat} {H : Hp} : slcV (.str (c :: bl)) (.int ((1 : Nat) : Int)) .none H = some (.str bl, H) := by
  refine orM_of ?_
  show ret (V.str (cut (c :: bl) (min 1 (c :: bl).length) (c :: bl).length)) H = _
  unfold cut
  rw [List.take_length, List.length_cons, show min 1 (bl.length + 1) = 1 by omega]; rfl
theorem keys_end {G : Hp} {a b o tl z : Nat} {bl t : List Nat} {x5 x6 x7 x8 u v w x y : V} {nw : List Item} {rows : List Row} {out : List V} {i0 : Item} {is : List Item} {c c' : Nat} (hits : items nw = i0 :: is) (hok : ∀ i ∈ items nw, i.2 ≤ 2) (hrows : rows = wrR i0.1 c i0.2 ++ tailR bl c' is) (ht : Toks z rows out) (ha : G[a]? = some (.list (nw.map fun p => .str p.1))) (hl : G[tl]? = some (.list out)) (hn : nw.length ≤ 40) :
    ∃ l, retK T69 n_law_keys_T11 (kτ a b bl t o x5 x6 x7 x8 tl u v w x y) G = some (.bool true, G ++ l) := by
  have hag := (List.getElem?_eq_some_iff.mp ha).1
  obtain ⟨ws, hp⟩ := parser_new (E := G ++ [O.list []]) (r := G.length) (ap_old hl)
  let p := (G ++ [O.list []]).length + 5
  let E := G ++ [O.list []] ++ [O.list out, .list [], .list [], .list [], .list [], prs (G ++ [O.list []]).length 0 ws]
  have hpe : E[p]? = some (prs (G ++ [O.list []]).length 0 ws) := ap_get (i := 5) rfl
  have hte : E[(G ++ [O.list []]).length]? = some (.list out) := ap_get (i := 0) rfl
  have hne : (G ++ [O.list []]).length ≠ p := Nat.ne_of_lt (Nat.lt_add_of_pos_right (by decide))
  have hl1 : (G ++ [O.list []]).length = G.length + 1 := List.length_append
  have hap : a ≠ p := Nat.ne_of_lt (Nat.lt_of_lt_of_le hag (by show G.length ≤ (G ++ [O.list []]).length + 5; omega))
  have hae : E[a]? = some (.list (nw.map fun p => .str p.1)) := ap_old (ap_old ha)
  obtain ⟨x5', e⟩ := pl_loop (E := E) (b := b) (bl := bl) (t := t) (o := o) (x5 := x5) (x6 := x6) (x7 := x7) (x8 := x8) (tl := tl) (u := u) (v := v) (w := w) (x := x) (y := y) (r2 := G.length) hits hok hrows ht hpe hte hne hae hap hn
  refine ⟨[O.list []] ++ [O.list out, .list [], .list [], .list [], .list [], prs (G ++ [O.list []]).length rows.length ws], ?_⟩
  refine (show _ = bnd (f_Parser [.ref tl, dgs G.length]) (fun vp => bnd (biV .len [.ref a]) fun n => bnd (binV .Mult (.int ((2 : Nat) : Int)) n) fun m => bnd (biV .rng [m]) fun o' => bnd (forN (.inr 5) o' (execSs T69 n_law_keys_L9b) FUEL 0 [.ref a, .ref b, .str (44 :: bl), .str t, .ref o, x5, x6, x7, x8, .ref tl, u, v, w, x, y, dgs G.length, vp]) (endK T69 n_law_keys_T10)) (G ++ [O.list []]) by kernel_rfl).trans ((bnd_of hp).trans ((bnd_of (len_ref hae)).trans ?_))
  rw [List.length_map]
  refine (bnd_of (mul_nat (by decide) (Nat.le_trans hn (by decide)))).trans ((bnd_of (rng_of (Nat.le_trans (Nat.mul_le_mul_left 2 hn) (by decide)))).trans ((bnd_of e).trans ?_))
  obtain ⟨l0, he⟩ := (toks_get ht (i := 0)).2
  have hp2 := set_get (y := prs (G ++ [O.list []]).length rows.length ws) hpe
  have hdr : (E.set p (prs (G ++ [O.list []]).length rows.length ws))[G.length]? = some (.list []) := by
    rw [List.getElem?_set_ne (Ne.symm (Nat.ne_of_lt (by show G.length < (G ++ [O.list []]).length + 5; omega)))]; exact ap_old get_new
  refine (show _ = hB (recvK (.ref p) 9) (fun g => bnd (methV T69 g (.ref p) 9 []) fun tk => bnd (attrV tk 0) fun k => hB (cmpB .Eq k (.int ((0 : Nat) : Int))) fun r => bM r (bnd (biV .len [.ref G.length]) fun n => hB (cmpB .Eq n (.int ((0 : Nat) : Int))) fun r => ret (.bool r)) (ret (.bool r))) (E.set p (prs (G ++ [O.list []]).length rows.length ws)) by kernel_rfl).trans ((hB_of (recv_ins hp2 rfl)).trans ?_)
  refine (show _ = bnd (f_now [.ref p]) (fun tk => bnd (attrV tk 0) fun k => hB (cmpB .Eq k (.int ((0 : Nat) : Int))) fun r => bM r (bnd (biV .len [.ref G.length]) fun n => hB (cmpB .Eq n (.int ((0 : Nat) : Int))) fun r => ret (.bool r)) (ret (.bool r))) (E.set p (prs (G ++ [O.list []]).length rows.length ws)) by kernel_rfl).trans ((bnd_of (now_ok hp2 (by rw [List.getElem?_set_ne (Ne.symm hne)]; exact hte) he)).trans ?_)
  refine (show _ = bnd (biV .len [.ref G.length]) (fun n => hB (cmpB .Eq n (.int ((0 : Nat) : Int))) fun r => ret (.bool r)) (E.set p (prs (G ++ [O.list []]).length rows.length ws)) by kernel_rfl).trans ((bnd_of (len_ref hdr)).trans ?_)
  refine (show _ = some (V.bool true, E.set p (prs (G ++ [O.list []]).length rows.length ws)) by kernel_rfl).trans ?_
  rw [show E.set p (prs (G ++ [O.list []]).length rows.length ws) = G ++ [O.list []] ++ [O.list out, .list [], .list [], .list [], .list [], prs (G ++ [O.list []]).length rows.length ws] from ap_set (i := 5), List.append_assoc]
theorem keys_ok {H : Hp} {a b : Nat} {bl : List Nat} {nw : List Item} (hi : ∀ p ∈ nw, ItOk p) (hne : nw ≠ []) (hb : bl.length ≤ 2) (hbl : bl.all isB = true) (hn : nw.length ≤ 40) (ha : H[a]? = some (.list (nw.map fun p => .str p.1))) (hw : H[b]? = some (.list (nw.map fun p => .int (p.2 : Nat)))) :
    f_law_keys [.ref a, .ref b, .str (44 :: bl)] H = some (.bool true, H) := by
  have z : SZ = 100000 := rfl
  have hi2 : ∀ p ∈ nw, ItOk (p.1, 0) ∧ ItOk p := fun p hp => ⟨⟨(hi p hp).1, (hi p hp).2.1, Nat.zero_le _⟩, hi p hp⟩
  have hit := items_all hi2
  obtain ⟨i0, is, hits⟩ : ∃ i0 is, items nw = i0 :: is := by
    cases nw with
    | nil => exact absurd rfl hne
    | cons p ps => exact ⟨_, _, rfl⟩
  obtain ⟨gs, x5, x6, x7, x8, e⟩ := kb_loop hi2 hb hn ha hw
  have hlen : is.length ≤ 80 := by
    have := items_len (nw := nw)
    rw [hits, List.length_cons] at this; omega
  have hit' := hit
  rw [hits] at hit'
  obtain ⟨l1, l2⟩ := tail_len hb (is := is) (n := bl.length + (wrT i0.1 i0.2).length) fun j hj => hit' j (List.mem_cons_of_mem _ hj)
  obtain ⟨k1, k2⟩ := wr_len (hit' i0 List.mem_cons_self) bl.length
  rw [hits, fold_all] at e
  generalize hT : bl ++ (wrT i0.1 i0.2 ++ tailT bl is) = T at e
  generalize hR : wrR i0.1 bl.length i0.2 ++ tailR bl (bl.length + (wrT i0.1 i0.2).length) is = rows at e
  have hTl : T.length + 2 ≤ SZ := by rw [← hT, List.length_append, List.length_append, z]; omega
  have hRl : rows.length + 1 < SZ := by rw [← hR, List.length_append, z]; omega
  obtain ⟨⟨out, hx, hk⟩, hrd⟩ := good_all hTl hbl hit' hT.symm
  rw [hR] at hx hk hrd
  let G := kH H (T, rows) gs
  obtain ⟨l, e2, e3⟩ := same_ok (H := G) (w := H.length) hx hk hTl (ap_get (i := 0) rfl) hRl
  have hout : (G ++ l)[G.length + 3]? = some (.list out) := ap_get e3
  obtain ⟨u, v, w, x, y, e4⟩ := rdr_loop (G := G ++ l) (a := a) (b := b) (bl := bl) (t := T) (o := H.length) (x5 := x5) (x6 := x6) (x7 := x7) (x8 := x8) (tl := G.length + 3) hrd (fun r hr => toks_x hk hr) (ap_old (ap_get (i := 0) rfl)) (Nat.lt_trans (Nat.lt_of_succ_lt hRl) (by decide))
  obtain ⟨l', e5⟩ := keys_end (G := G ++ l) (b := b) (bl := bl) (t := T) (o := H.length) (x5 := x5) (x6 := x6) (x7 := x7) (x8 := x8) (u := u) (v := v) (w := w) (x := x) (y := y) hits (fun i h => (hit i h).2.2) hR.symm hk (ap_old (ap_old ha)) hout hn
  refine trunc_eq (G := .list (rows.map rowV) :: gs ++ (l ++ l')) (runK_le H _ ?_) rfl rfl closed_same
  refine (show _ = bnd (slcV (.str (44 :: bl)) (.int ((1 : Nat) : Int)) .none) (fun v => retK T69 (tlN n_law_keys) [.ref a, .ref b, .str (44 :: bl), v, .undef, .undef, .undef, .undef, .undef, .undef, .undef, .undef, .undef, .undef, .undef, .undef, .undef]) H by kernel_rfl).trans ((bnd_of slc_one).trans ?_)
  refine (show _ = bnd (biV .len [.ref a]) (fun n => bnd (biV .rng [n]) fun o => bnd (forN (.inr 5) o (execSs T69 n_law_keys_L5b) FUEL 0 (kσ a b bl bl H.length .undef .undef .undef .undef)) (endK T69 n_law_keys_T12)) (H ++ [.list []]) by kernel_rfl).trans ((bnd_of (len_ref (ap_old ha))).trans ?_)
  rw [List.length_map]
  refine (bnd_of (rng_of (Nat.le_trans hn (by decide)))).trans ((bnd_of e).trans ?_)
  refine (show _ = bnd (f_law_same [.str T, .ref H.length]) (fun v => retK T69 (tlN n_law_keys_T12) [.ref a, .ref b, .str (44 :: bl), .str T, .ref H.length, x5, x6, x7, x8, v, .undef, .undef, .undef, .undef, .undef, .undef, .undef]) G by kernel_rfl).trans ((bnd_of e2).trans ?_)
  refine (show _ = bnd (biV .len [.ref (G.length + 3)]) (fun n => hB (cmpB .Eq n (.int ((0 : Nat) : Int))) fun r => bM r (execKs T69 (.cons (.rtn (.lit (.bool .false))) .nil) (kτ a b bl T H.length x5 x6 x7 x8 (G.length + 3) .undef .undef .undef .undef .undef) (fun σ => retK T69 (tlN (tlN n_law_keys_T12)) σ) (fun z' => failM) (fun v z' => ret v)) (bnd (forN (.inl [10, 11, 12, 13]) (.ref H.length) (execSs T69 n_law_keys_L7b) FUEL 0 (kτ a b bl T H.length x5 x6 x7 x8 (G.length + 3) .undef .undef .undef .undef .undef)) (endK T69 n_law_keys_T11))) (G ++ l) by kernel_rfl).trans ((bnd_of (len_ref hout)).trans ?_)
  rw [toks_len hk]
  refine (hB_of (show cmpB .Eq (.int ((rows.length + 1 : Nat) : Int)) (.int ((0 : Nat) : Int)) (G ++ l) = some false from rfl)).trans ((congrFun (bM_f rfl) _).trans ((bnd_of e4).trans ?_))
  refine e5.trans ?_
  show some (V.bool true, ((H ++ _) ++ l) ++ l') = _
  rw [List.append_assoc, List.append_assoc]
noncomputable def T70 : Tab := extT T69 901 f_law_keys
end

section

theorem eq_same {a : List V} {H : Hp} (h : eqPs a a = true) : cmpB .Eq (.tup a) (.tup a) H = some true := by
  show oO (sure (eqPs a a)) _ = _
  rw [h]; rfl
def HoleOk (a : Nat) (h : List Nat) (R : List Row) : Prop := ∀ (t r : List Nat) (rows : List Row), t.length + 2 ≤ SZ → t.drop a = h ++ 125 :: r → Good t (a + h.length) [0] rows → Good t a [0] (R ++ rows)
section
variable {a : Nat} {s : List Nat}
theorem lex_x {r : List Nat} : Lex ([120] ++ 125 :: r) [120].length 1 [120] 0 (farB [120]) := .name (c := 120) (ws := []) (s := 125 :: r) rfl rfl rfl
theorem hole_x : HoleOk a [120] [(1, [120], a, a + 1)] := fun t r rows hz h g => Good.tk (bs := []) lex_x (fun e => nomatch e) h rfl (show 1 ≤ SZ by decide) (.in0 rfl rfl) g
theorem hole_b : HoleOk a [123, 125] [(5, [123], a, a + 1), (5, [125], a + 1, a + 2)] := fun t r rows hz h g =>
  Good.tk (bs := []) (w := [123]) (rest := 125 :: 125 :: r) (.sign (.inr (.inr (.inr (.inl rfl))))) (fun e => nomatch e) h rfl (show 1 ≤ SZ by decide) .opens
    (Good.tk (bs := []) (w := [125]) (rest := 125 :: r) (.sign (.inr (.inr (.inr (.inr rfl))))) (fun e => nomatch e) (drop_succ h) rfl (show 1 ≤ SZ by decide) .shuts g)
theorem hole_q (hs : okW s = true) (hz : s.length ≤ SZ) : HoleOk a (quoteS s) [(4, s, a, a + (quoteS s).length)] := fun t r rows z' h g => Good.tk (bs := []) (lex_quote hs) (fun e => nomatch e) h rfl hz (.in0 rfl rfl) g
theorem hole_t (hs : okW s = true) (hz : s.length ≤ SZ) : HoleOk a (96 :: (tplS s ++ [96])) [(6, s, a, a + (96 :: (tplS s ++ [96])).length)] := fun t r rows z' h g => Good.tk (bs := []) (lex_tpl hs) (fun e => nomatch e) h rfl hz (.in0 rfl rfl) g
theorem hole_n : HoleOk a [96, 36, 123, 120, 125, 96] [(7, [], a, a + 3), (1, [120], a + 3, a + 4), (9, [], a + 4, a + 6)] := fun t r rows hz h g =>
  Good.tk (bs := []) (w := [96, 36, 123]) (rest := 120 :: 125 :: 96 :: 125 :: r) (.tpl (cks := []) (.inr ⟨_, rfl, rfl, rfl⟩) .nil) (fun e => nomatch e) h rfl (Nat.zero_le _) .head1
    (Good.tk (bs := []) (w := [120]) (rest := 125 :: 96 :: 125 :: r) lex_x (fun e => nomatch e) (drop_succ (drop_succ (drop_succ h))) rfl (show 1 ≤ SZ by decide) (.in1 rfl rfl)
      (Good.tail (hs := [0]) (w := []) (s := []) (rest := 125 :: r) ⟨[], .nil, rfl⟩ (drop_succ (drop_succ (drop_succ (drop_succ h)))) (Nat.zero_le _) g))
end
noncomputable def f_law_holes : Fn := trunc 0 (runF T70 12 4 n_law_holes)
section
variable {H : Hp} {f b s h : List Nat} {form : Nat} {w5 w6 : V} {l0 : List O} {R : List Row} {i : Nat}
noncomputable def holeT (f b h : List Nat) : List Nat := ((((([96] ++ tplS f) ++ [36, 123]) ++ h) ++ [125]) ++ tplS b) ++ [96]
noncomputable abbrev holeA (f : List Nat) : Nat := (tplS f).length + 3
theorem holeT_eq (r : List Nat) : ((((([96] ++ tplS f) ++ [36, 123]) ++ h) ++ [125]) ++ tplS b) ++ r = (96 :: (tplS f ++ [36, 123])) ++ (h ++ 125 :: (tplS b ++ r)) := by
  simp only [List.append_assoc, List.cons_append, List.nil_append]
theorem holeT_len : (holeT f b h).length = holeA f + h.length + 1 + (tplS b).length + 1 := by
  unfold holeT holeA
  simp only [List.length_append, List.length_cons, List.length_nil]; omega
theorem hole_good (hf : okW f = true) (hb : okW b = true) (hfz : f.length ≤ SZ) (hbz : b.length ≤ SZ) (hz : (holeT f b h).length + 2 ≤ SZ) (hh : HoleOk (holeA f) h R) :
    Good (holeT f b h) 0 [] ((7, f, 0, holeA f) :: (R ++ [(9, b, holeA f + h.length, (holeT f b h).length)])) ∧
    (∀ H : Hp, f_read_template [.str (holeT f b h), .int ((0 : Nat) : Int)] H = some (.tup [.str f, .int (holeA f : Nat), .int (bif farB f then (2 : Nat) else (0 : Nat) : Nat)], H)) ∧
    (∀ H : Hp, f_read_template [.str (holeT f b h), .int ((holeA f + h.length : Nat) : Int)] H = some (.tup [.str b, .int ((holeT f b h).length : Nat), .int (bif farB b then (2 : Nat) else (1 : Nat) : Nat)], H)) := by
  have e0 : holeT f b h = (96 :: (tplS f ++ [36, 123])) ++ (h ++ 125 :: (tplS b ++ [96])) := holeT_eq [96]
  have l0 : (96 :: (tplS f ++ [36, 123])).length = holeA f := by rw [List.length_cons, List.length_append]; rfl
  have d0 : (holeT f b h).drop 0 = 96 :: (tplS f ++ 36 :: 123 :: (h ++ 125 :: (tplS b ++ [96]))) := by
    show holeT f b h = _
    rw [e0, List.cons_append, List.append_assoc]; rfl
  have d1 : (holeT f b h).drop (holeA f) = h ++ 125 :: (tplS b ++ [96]) := by rw [e0, ← l0, List.drop_left]
  have d2 : (holeT f b h).drop (holeA f + h.length) = 125 :: (tplS b ++ 96 :: []) := drop_add d1
  obtain ⟨cks, hr, hc⟩ := tpl_run (rest := 36 :: 123 :: (h ++ 125 :: (tplS b ++ [96]))) (by decide : (36 : Nat) ≠ 123) hf
  have hrb := tpl_run (rest := [96]) (by decide : (96 : Nat) ≠ 123) hb
  refine ⟨?_, fun H => ?_, fun H => ?_⟩
  · have hlex := Lex.tpl (.inr ⟨_, rfl, rfl, rfl⟩) hr
    rw [hc] at hlex
    have ht : Good (holeT f b h) (holeA f + h.length) [0] [(9, b, holeA f + h.length, (holeT f b h).length)] := by
      have := Good.tail (hs := []) (rows := []) hrb d2 hbz (Good.fin holeT_len)
      rw [← holeT_len] at this; exact this
    have := Good.tk (t := holeT f b h) (n := 0) (bs := []) (w := 96 :: (tplS f ++ [36, 123])) (rest := h ++ 125 :: (tplS b ++ [96])) (k := 7) (v := 0) (x := f) (hs := []) (hs' := [0]) (rows := R ++ [(9, b, holeA f + h.length, (holeT f b h).length)]) (by
      rw [l0, List.cons_append, List.append_assoc, holeA, Nat.add_comm, show 3 + (tplS f).length = 1 + (tplS f).length + 2 by omega]; exact hlex) (fun e => nomatch e) e0 rfl hfz .head0 (by
      rw [l0, show 0 + List.length ([] : List Nat) + holeA f = holeA f from Nat.zero_add _]; exact hh _ _ _ hz d1 ht)
    rw [l0, show 0 + List.length ([] : List Nat) + holeA f = holeA f from Nat.zero_add _] at this
    exact this
  · have := read_template_ok (H := H) (.inr ⟨_, rfl, rfl, rfl⟩) hz hr d0 (by rw [hc]; exact hfz)
    rw [hc] at this
    refine this.trans ?_
    rw [show 0 + 1 + (tplS f).length + 2 = holeA f by rw [holeA]; omega]
    cases farB f <;> rfl
  · obtain ⟨cks, hr, hc⟩ := hrb
    have := read_template_ok (H := H) (.inl ⟨[], rfl, rfl, rfl⟩) hz hr d2 (by rw [hc]; exact hbz)
    rw [hc] at this
    refine this.trans ?_
    rw [← holeT_len]
    cases farB b <;> rfl
end
end

section
section
variable {H : Hp} {f b s h : List Nat} {form : Nat} {w5 w6 : V} {l0 : List O} {R : List Row} {i : Nat}
variable {a tl j k : Nat} {T t1 : List Nat} {G : Hp}
noncomputable abbrev hσ (f b s : List Nat) (form a : Nat) (w5 w6 : V) (h : List Nat) (j : Nat) (x y z : V) : List V := [.str f, .str b, .str s, .int (form : Nat), .int (a : Nat), w5, w6, .str h, .ref j, x, y, z]
theorem hr_a : retK T70 (tlN (tlN (tlN (tlN (tlN n_law_holes))))) (hσ f b s form a w5 w6 h j .undef .undef .undef) G = bnd (f_template_text [.str f]) (fun v => bnd (addV (.str [96]) v) fun v => bnd (addV v (.str [36, 123])) fun v => bnd (addV v (.str h)) fun v => retK T70 (tlN (tlN (tlN (tlN (tlN (tlN n_law_holes)))))) (hσ f b s form a w5 w6 h j v .undef .undef)) G := by kernel_rfl
theorem hr_b1 : retK T70 (tlN (tlN (tlN (tlN (tlN (tlN n_law_holes)))))) (hσ f b s form a w5 w6 h j (.str t1) .undef .undef) G = bnd (biV .len [.str t1]) (fun n => retK T70 (tlN (tlN (tlN (tlN (tlN (tlN (tlN n_law_holes))))))) (hσ f b s form a w5 w6 h j (.str t1) n .undef)) G := by kernel_rfl
theorem hr_b : retK T70 (tlN (tlN (tlN (tlN (tlN (tlN (tlN n_law_holes))))))) (hσ f b s form a w5 w6 h j (.str t1) (.int (tl : Nat)) .undef) G = bnd (addV (.str t1) (.str [125])) (fun v => bnd (f_template_text [.str b]) fun v2 => bnd (addV v v2) fun v => bnd (addV v (.str [96])) fun v => retK T70 (tlN (tlN (tlN (tlN (tlN (tlN (tlN (tlN n_law_holes)))))))) (hσ f b s form a w5 w6 h j v (.int (tl : Nat)) .undef)) G := by kernel_rfl
theorem hr_c : retK T70 (tlN (tlN (tlN (tlN (tlN (tlN (tlN (tlN n_law_holes)))))))) (hσ f b s form a w5 w6 h j (.str T) (.int (tl : Nat)) .undef) G = bnd (newL [rowV (7, f, 0, a)]) (fun va => bnd (addV va (.ref j)) fun vs => bnd (newL [rowV (9, b, tl, T.length)]) fun vb => bnd (addV vs vb) fun w => retK T70 (tlN (tlN (tlN (tlN (tlN (tlN (tlN (tlN (tlN n_law_holes))))))))) (hσ f b s form a w5 w6 h j (.str T) (.int (tl : Nat)) w)) G := by kernel_rfl
noncomputable abbrev hbad (f b s : List Nat) (form a : Nat) (w5 w6 : V) (h : List Nat) (j : Nat) (x y z : V) (n : N) : M V := execKs T70 (.cons (.rtn (.lit (.bool .false))) .nil) (hσ f b s form a w5 w6 h j x y z) (fun σ => retK T70 n σ) (fun z' => failM) (fun v z' => ret v)
theorem hr_d : retK T70 (tlN (tlN (tlN (tlN (tlN (tlN (tlN (tlN (tlN n_law_holes))))))))) (hσ f b s form a w5 w6 h j (.str T) (.int (tl : Nat)) (.ref k)) G = bnd (f_law_same [.str T, .ref k]) (fun v => bnd (biV .len [v]) fun n => hB (cmpB .Eq n (.int ((0 : Nat) : Int))) fun r => bM r (hbad f b s form a w5 w6 h j (.str T) (.int (tl : Nat)) (.ref k) (tlN (tlN (tlN (tlN (tlN (tlN (tlN (tlN (tlN (tlN n_law_holes))))))))))) (retK T70 (tlN (tlN (tlN (tlN (tlN (tlN (tlN (tlN (tlN (tlN n_law_holes)))))))))) (hσ f b s form a w5 w6 h j (.str T) (.int (tl : Nat)) (.ref k)))) G := by kernel_rfl
theorem hr_e : retK T70 (tlN (tlN (tlN (tlN (tlN (tlN (tlN (tlN (tlN (tlN n_law_holes)))))))))) (hσ f b s form a w5 w6 h j (.str T) (.int (tl : Nat)) (.ref k)) G = bnd (f_read_template [.str T, .int ((0 : Nat) : Int)]) (fun v => bnd (f_law_beyond [.str f]) fun b1 => bnd (truthyM b1) fun b0 => bM b0 (hB (cmpB .NotEq v (.tup [.str f, .int (a : Nat), .int ((2 : Nat) : Int)])) fun r => bM r (hbad f b s form a w5 w6 h j (.str T) (.int (tl : Nat)) (.ref k) (tlN (tlN (tlN (tlN (tlN (tlN (tlN (tlN (tlN (tlN (tlN n_law_holes)))))))))))) (retK T70 (tlN (tlN (tlN (tlN (tlN (tlN (tlN (tlN (tlN (tlN (tlN n_law_holes))))))))))) (hσ f b s form a w5 w6 h j (.str T) (.int (tl : Nat)) (.ref k))))
    (hB (cmpB .NotEq v (.tup [.str f, .int (a : Nat), .int ((0 : Nat) : Int)])) fun r => bM r (hbad f b s form a w5 w6 h j (.str T) (.int (tl : Nat)) (.ref k) (tlN (tlN (tlN (tlN (tlN (tlN (tlN (tlN (tlN (tlN (tlN n_law_holes)))))))))))) (retK T70 (tlN (tlN (tlN (tlN (tlN (tlN (tlN (tlN (tlN (tlN (tlN n_law_holes))))))))))) (hσ f b s form a w5 w6 h j (.str T) (.int (tl : Nat)) (.ref k))))) G := by kernel_rfl
theorem hr_f : retK T70 (tlN (tlN (tlN (tlN (tlN (tlN (tlN (tlN (tlN (tlN (tlN n_law_holes))))))))))) (hσ f b s form a w5 w6 h j (.str T) (.int (tl : Nat)) (.ref k)) G = bnd (f_read_template [.str T, .int (tl : Nat)]) (fun v => bnd (f_law_beyond [.str b]) fun b1 => bnd (truthyM b1) fun b0 => bM b0 (hB (cmpB .Eq v (.tup [.str b, .int (T.length : Nat), .int ((2 : Nat) : Int)])) fun r => ret (.bool r)) (hB (cmpB .Eq v (.tup [.str b, .int (T.length : Nat), .int ((1 : Nat) : Int)])) fun r => ret (.bool r))) G := by kernel_rfl
theorem len_str {s : List Nat} : biV .len [.str s] G = some (.int (s.length : Nat), G) := by kernel_rfl
theorem holes_rest (hf : okW f = true) (hb : okW b = true) (hfz : f.length ≤ 40) (hbz : b.length ≤ 40) (hhz : h.length ≤ 200) (hRz : R.length ≤ 4) (hh : HoleOk (holeA f) h R) (hl : l0[i]? = some (.list (R.map rowV))) :
    ∃ l, retK T70 (tlN (tlN (tlN (tlN (tlN n_law_holes))))) (hσ f b s form (holeA f) w5 w6 h (H.length + i) .undef .undef .undef) (H ++ l0) = some (.bool true, H ++ l) := by
  have z : SZ = 100000 := rfl
  have zf := tplS_len f
  have zb := tplS_len b
  have hz : (holeT f b h).length + 2 ≤ SZ := by rw [holeT_len, holeA, z]; omega
  obtain ⟨⟨out, hx, hk⟩, hr1, hr2⟩ := hole_good hf hb (by rw [z]; omega) (by rw [z]; omega) hz hh
  have t1l : ((([96] ++ tplS f) ++ [36, 123]) ++ h).length = holeA f + h.length := by
    rw [holeA]; simp only [List.length_append, List.length_cons, List.length_nil]; omega
  have A1 : ∀ {x y : List Nat} {D : V → M V} {G : Hp}, x.length + y.length ≤ 1000 → bnd (addV (.str x) (.str y)) D G = D (.str (x ++ y)) G := fun h => bnd_of (adds (Nat.le_trans h (by decide)))
  have e1 : ∀ l, retK T70 (tlN (tlN (tlN (tlN (tlN (tlN (tlN (tlN n_law_holes)))))))) (hσ f b s form (holeA f) w5 w6 h (H.length + i) (.str (holeT f b h)) (.int ((holeA f + h.length : Nat) : Int)) .undef) (H ++ l0) = some (.bool true, H ++ l) →
      retK T70 (tlN (tlN (tlN (tlN (tlN n_law_holes))))) (hσ f b s form (holeA f) w5 w6 h (H.length + i) .undef .undef .undef) (H ++ l0) = some (.bool true, H ++ l) := fun l e => by
    refine hr_a.trans ((bnd_of (template_ok (Nat.le_trans hfz (by decide)))).trans ((A1 (by rw [List.length_singleton]; omega)).trans ((A1 (by simp only [List.length_append, List.length_cons, List.length_nil]; omega)).trans ((A1 (by simp only [List.length_append, List.length_cons, List.length_nil]; omega)).trans (hr_b1.trans ((bnd_of len_str).trans ?_))))))
    rw [t1l]
    refine hr_b.trans ((A1 (by rw [t1l, List.length_singleton, holeA]; omega)).trans ((bnd_of (template_ok (Nat.le_trans hbz (by decide)))).trans ((A1 (by rw [List.length_append, t1l, List.length_singleton, holeA]; omega)).trans ((A1 (by rw [List.length_append, List.length_append, t1l, List.length_singleton, List.length_singleton, holeA]; omega)).trans e))))
  refine Exists.imp e1 ?_
  clear e1
  generalize hT : holeT f b h = T at *
  generalize ha : holeA f = a at *
  generalize htl : a + h.length = tl at *
  have C : ∃ l, retK T70 (tlN (tlN (tlN (tlN (tlN (tlN (tlN (tlN n_law_holes)))))))) (hσ f b s form a w5 w6 h (H.length + i) (.str T) (.int (tl : Nat)) .undef) (H ++ l0) = some (.bool true, H ++ l) := by
    let A : List V := [rowV (7, f, 0, a)]
    let B : List V := [rowV (9, b, tl, T.length)]
    have g1 : (H ++ (l0 ++ [O.list A]))[H.length + i]? = some (.list (R.map rowV)) := ap_get (by rw [List.getElem?_append_left (List.getElem?_eq_some_iff.mp hl).1]; exact hl)
    have g2 : (H ++ (l0 ++ [O.list A]))[H.length + l0.length]? = some (.list A) := ap_get List.getElem?_concat_length
    let l1 := l0 ++ [O.list A] ++ [O.list (A ++ R.map rowV)]
    let l2 := l1 ++ [O.list B]
    let l3 := l2 ++ [O.list (A ++ R.map rowV ++ B)]
    have k1 : l1.length = (l0 ++ [O.list A]).length + 1 := List.length_append
    have g3 : (H ++ l2)[H.length + (l0 ++ [O.list A]).length]? = some (.list (A ++ R.map rowV)) := ap_get (by rw [List.getElem?_append_left (by rw [k1]; exact Nat.lt_succ_self _)]; exact List.getElem?_concat_length)
    have g4 : (H ++ l2)[H.length + l1.length]? = some (.list B) := ap_get List.getElem?_concat_length
    have g5 : (H ++ l3)[H.length + l2.length]? = some (.list (((7, f, 0, a) :: (R ++ [(9, b, tl, T.length)]) : List Row).map rowV)) := ap_get (by
      rw [show (((7, f, 0, a) :: (R ++ [(9, b, tl, T.length)]) : List Row).map rowV) = A ++ R.map rowV ++ B by rw [List.map_cons, List.map_append]; rfl]
      exact List.getElem?_concat_length)
    obtain ⟨l, e, hout⟩ := same_ok (H := H ++ l3) hx hk hz g5 (by rw [List.length_cons, List.length_append, z, List.length_singleton]; omega)
    refine ⟨l3 ++ l, hr_c.trans ((bnd_of new_ap).trans ((bnd_of ((add_lists g2 g1 (by rw [List.length_map, z]; show 1 + R.length ≤ _; omega)).trans new_ap)).trans ((bnd_of new_ap).trans ((bnd_of ((add_lists g3 g4 (by rw [List.length_append, List.length_map, z]; show 1 + R.length + 1 ≤ _; omega)).trans new_ap)).trans ?_))))⟩
    refine hr_d.trans ((bnd_of e).trans ((bnd_of (len_ref (ap_get hout))).trans ?_))
    rw [toks_len hk]
    refine (hB_of (show cmpB .Eq (.int (((((7, f, 0, a) :: (R ++ [(9, b, tl, T.length)]) : List Row)).length + 1 : Nat) : Int)) (.int ((0 : Nat) : Int)) _ = some false from rfl)).trans ((congrFun (bM_f rfl) _).trans ?_)
    rw [List.append_assoc]
    generalize H ++ (l3 ++ l) = G
    refine hr_e.trans ((bnd_of (hr1 G)).trans ((bnd_of (beyond_ok (Nat.le_trans hfz (by decide)))).trans ?_))
    have last : retK T70 (tlN (tlN (tlN (tlN (tlN (tlN (tlN (tlN (tlN (tlN (tlN n_law_holes))))))))))) (hσ f b s form a w5 w6 h (H.length + i) (.str T) (.int (tl : Nat)) (.ref (H.length + l2.length))) G = some (.bool true, G) := by
      refine hr_f.trans ((bnd_of (hr2 G)).trans ((bnd_of (beyond_ok (Nat.le_trans hbz (by decide)))).trans ?_))
      refine (bnd_of (show truthyM (.bool (farB b)) G = some (farB b, G) from rfl)).trans ?_
      cases farB b with
      | true => exact (congrFun (bM_t rfl) G).trans ((hB_of (eq_same (eq3 rfl))).trans rfl)
      | false => exact (congrFun (bM_f rfl) G).trans ((hB_of (eq_same (eq3 rfl))).trans rfl)
    refine (bnd_of (show truthyM (.bool (farB f)) G = some (farB f, G) from rfl)).trans ?_
    cases farB f with
    | true => exact (congrFun (bM_t rfl) G).trans ((ne_same (eq3 rfl)).trans last)
    | false => exact (congrFun (bM_f rfl) G).trans ((ne_same (eq3 rfl)).trans last)
  exact C
theorem hr_list {sd : List Nat} : retK T70 (tlN (tlN (tlN n_law_holes))) [.str f, .str b, .str s, .int (form : Nat), .int (a : Nat), .str sd, .undef, .undef, .undef, .undef, .undef, .undef] G =
    bnd (newL [rowV (1, [120], a, a + 1)]) (fun l0 => bnd (newL [rowV (5, [123], a, a + 1), rowV (5, [125], a + 1, a + 2)]) fun l1 => bnd (newL [rowV (4, s, a, a + sd.length)]) fun l2 => bnd (newL [rowV (6, s, a, a + sd.length)]) fun l3 => bnd (newL [rowV (7, [], a, a + 3), rowV (1, [120], a + 3, a + 4), rowV (9, [], a + 4, a + 6)]) fun l4 =>
      bnd (idxV (.tup [.tup [.str [120], l0], .tup [.str [123, 125], l1], .tup [.str sd, l2], .tup [.str sd, l3], .tup [.str [96, 36, 123, 120, 125, 96], l4]]) (.int (form : Nat))) fun v => oB (bindT (.inl [7, 8]) v [.str f, .str b, .str s, .int (form : Nat), .int (a : Nat), .str sd, .tup [.tup [.str [120], l0], .tup [.str [123, 125], l1], .tup [.str sd, l2], .tup [.str sd, l3], .tup [.str [96, 36, 123, 120, 125, 96], l4]], .undef, .undef, .undef, .undef, .undef]) fun σ => retK T70 (tlN (tlN (tlN (tlN (tlN n_law_holes))))) σ) G := by kernel_rfl
theorem holes_list {sd : List Nat} (hform : form < 5) (hf : okW f = true) (hb : okW b = true) (hfz : f.length ≤ 40) (hbz : b.length ≤ 40) (hsd : sd.length ≤ 200)
    (h2 : form = 2 → HoleOk (holeA f) sd [(4, s, holeA f, holeA f + sd.length)]) (h3 : form = 3 → HoleOk (holeA f) sd [(6, s, holeA f, holeA f + sd.length)]) :
    ∃ l, retK T70 (tlN (tlN (tlN n_law_holes))) [.str f, .str b, .str s, .int (form : Nat), .int (holeA f : Nat), .str sd, .undef, .undef, .undef, .undef, .undef, .undef] H = some (.bool true, H ++ l) := by
  let a := holeA f
  let l5 : List O := [.list [rowV (1, [120], a, a + 1)], .list [rowV (5, [123], a, a + 1), rowV (5, [125], a + 1, a + 2)], .list [rowV (4, s, a, a + sd.length)], .list [rowV (6, s, a, a + sd.length)], .list [rowV (7, [], a, a + 3), rowV (1, [120], a + 3, a + 4), rowV (9, [], a + 4, a + 6)]]
  let five : List V := [.tup [.str [120], .ref H.length], .tup [.str [123, 125], .ref (H.length + 1)], .tup [.str sd, .ref (H.length + 2)], .tup [.str sd, .ref (H.length + 3)], .tup [.str [96, 36, 123, 120, 125, 96], .ref (H.length + 4)]]
  have go : ∀ (h : List Nat) (R : List Row), l5[form]? = some (.list (R.map rowV)) → five[form]? = some (.tup [.str h, .ref (H.length + form)]) → HoleOk (holeA f) h R → h.length ≤ 200 → R.length ≤ 4 → ∃ l, retK T70 (tlN (tlN (tlN n_law_holes))) [.str f, .str b, .str s, .int (form : Nat), .int (holeA f : Nat), .str sd, .undef, .undef, .undef, .undef, .undef, .undef] H = some (.bool true, H ++ l) := fun h R h1 h2 hh hz hrz => by
    obtain ⟨l, e⟩ := holes_rest (H := H) (s := s) (form := form) (w5 := .str sd) (w6 := .tup five) hf hb hfz hbz hz hrz hh h1
    refine ⟨l, hr_list.trans ((bnd_of (new_at rfl)).trans ((bnd_of new_ap).trans ((bnd_of new_ap).trans ((bnd_of new_ap).trans ((bnd_of new_ap).trans ((bnd_of (idx_tup h2)).trans ?_))))))⟩
    exact e
  match form, hform, h2, h3, go with
  | 0, _, _, _, go => exact go _ [(1, [120], a, a + 1)] rfl rfl hole_x (by show 1 ≤ 200; decide) (by show 1 ≤ 4; decide)
  | 1, _, _, _, go => exact go _ [(5, [123], a, a + 1), (5, [125], a + 1, a + 2)] rfl rfl hole_b (by show 2 ≤ 200; decide) (by show 2 ≤ 4; decide)
  | 2, _, h2, _, go => exact go _ [(4, s, a, a + sd.length)] rfl rfl (h2 rfl) hsd (by show 1 ≤ 4; decide)
  | 3, _, _, h3, go => exact go _ [(6, s, a, a + sd.length)] rfl rfl (h3 rfl) hsd (by show 1 ≤ 4; decide)
  | 4, _, _, _, go => exact go _ [(7, [], a, a + 3), (1, [120], a + 3, a + 4), (9, [], a + 4, a + 6)] rfl rfl hole_n (by show 6 ≤ 200; decide) (by show 3 ≤ 4; decide)
theorem hr_0 {n : Nat} : retK T70 (tlN (tlN n_law_holes)) [.str f, .str b, .str s, .int (form : Nat), .int (a : Nat), .str t1, .undef, .undef, .undef, .undef, .undef, .undef] G = bM ((form : Int) == ((3 : Nat) : Int)) (bnd (f_template_text [.str s]) fun v => bnd (addV (.str [96]) v) fun v => bnd (addV v (.str [96])) fun v => retK T70 (tlN (tlN (tlN n_law_holes))) [.str f, .str b, .str s, .int (form : Nat), .int (a : Nat), v, .undef, .undef, .undef, .undef, .undef, .undef]) (retK T70 (tlN (tlN (tlN n_law_holes))) [.str f, .str b, .str s, .int (form : Nat), .int (a : Nat), .str t1, .undef, .undef, .undef, .undef, .undef, .undef]) G := by kernel_rfl
theorem hr_1 : runK T70 12 4 n_law_holes [.str f, .str b, .str s, .int (form : Nat)] G = bnd (f_template_text [.str f]) (fun v => bnd (biV .len [v]) fun n => bnd (binV .Add n (.int ((3 : Nat) : Int))) fun n => retK T70 (tlN n_law_holes) [.str f, .str b, .str s, .int (form : Nat), n, .undef, .undef, .undef, .undef, .undef, .undef, .undef]) G := by kernel_rfl
theorem hr_2 : retK T70 (tlN n_law_holes) [.str f, .str b, .str s, .int (form : Nat), .int (a : Nat), .undef, .undef, .undef, .undef, .undef, .undef, .undef] G = bnd (f_quote [.str s]) (fun v => retK T70 (tlN (tlN n_law_holes)) [.str f, .str b, .str s, .int (form : Nat), .int (a : Nat), v, .undef, .undef, .undef, .undef, .undef, .undef]) G := by kernel_rfl
theorem holes_ok (hform : form < 5) (hf : okW f = true) (hb : okW b = true) (hs : okW s = true) (hfz : f.length ≤ 40) (hbz : b.length ≤ 40) (hsz : s.length ≤ 40) : f_law_holes [.str f, .str b, .str s, .int (form : Nat)] H = some (.bool true, H) := by
  have hq := quoteS_len s
  have ht := tplS_len s
  have hz : s.length ≤ SZ := Nat.le_trans hsz (by decide)
  have A1 : ∀ {x y : List Nat} {D : V → M V} {G : Hp}, x.length + y.length ≤ 1000 → bnd (addV (.str x) (.str y)) D G = D (.str (x ++ y)) G := fun h => bnd_of (adds (Nat.le_trans h (by decide)))
  have main : ∃ l, retK T70 (tlN (tlN n_law_holes)) [.str f, .str b, .str s, .int (form : Nat), .int (holeA f : Nat), .str (quoteS s), .undef, .undef, .undef, .undef, .undef, .undef] H = some (.bool true, H ++ l) := by
    by_cases h3 : form = 3
    · subst h3
      obtain ⟨l, e⟩ := holes_list (H := H) (s := s) (form := 3) (sd := 96 :: (tplS s ++ [96])) hform hf hb hfz hbz (by rw [List.length_cons, List.length_append, List.length_singleton]; omega) (fun e => nomatch e) (fun z' => hole_t hs hz)
      exact ⟨l, (hr_0 (n := 0)).trans ((congrFun (bM_t rfl) H).trans ((bnd_of (template_ok (Nat.le_trans hsz (by decide)))).trans ((A1 (by rw [List.length_singleton]; omega)).trans ((A1 (by rw [List.length_append, List.length_singleton]; omega)).trans e))))⟩
    · obtain ⟨l, e⟩ := holes_list (H := H) (s := s) (form := form) (sd := quoteS s) hform hf hb hfz hbz (by omega) (fun z' => hole_q hs hz) (fun e => absurd e h3)
      exact ⟨l, (hr_0 (n := 0)).trans ((congrFun (bM_f (beq_eq_false_iff_ne.mpr fun h => h3 (Int.ofNat_inj.mp h))) H).trans e)⟩
  obtain ⟨l, e⟩ := main
  refine trunc_eq (G := l) (runK_le H _ ?_) rfl rfl closed_same
  exact hr_1.trans ((bnd_of (template_ok (Nat.le_trans hfz (by decide)))).trans ((bnd_of len_str).trans ((bnd_of (show binV .Add (.int ((tplS f).length : Nat)) (.int ((3 : Nat) : Int)) H = some (.int (holeA f : Nat), H) from rfl)).trans (hr_2.trans ((bnd_of (quote_ok (Nat.le_trans hsz (by decide)))).trans e)))))
end
noncomputable def T71 : Tab := extT T70 908 f_law_holes
end

section

def RunB (P : Nat → List Nat → Bool) (rest body name : List Nat) (br : Bool) : Prop := ∃ cks, Run P rest body cks br ∧ (br = false → cks.flatten = name) ∧ cks.flatten.length ≤ body.length
section
variable {P : Nat → List Nat → Bool} {rest body name : List Nat} {br : Bool}
theorem RunB.nil : RunB P rest [] [] false := ⟨[], .nil, fun z' => rfl, Nat.le_refl _⟩
theorem RunB.plain {c : Nat} (hf : far c = false) (h : P c (body ++ rest) = true) (r : RunB P rest body name br) : RunB P rest (c :: body) (c :: name) br := by
  obtain ⟨cks, r, h1, h2⟩ := r
  have := Run.plain h r
  rw [hf] at this
  exact ⟨_, this, fun e => congrArg (List.cons c) (h1 e), Nat.succ_le_succ h2⟩
theorem RunB.esc {e ck : List Nat} (h : ∀ s, isDig (pk s) = false → EscIs (92 :: (e ++ s)) (some (ck, e.length + 1))) (hc : ck.length ≤ 1) (hd : isDig (pk (body ++ rest)) = false) (r : RunB P rest body name br) : RunB P rest (92 :: (e ++ body)) (ck ++ name) br := by
  obtain ⟨cks, r, h1, h2⟩ := r
  refine ⟨ck :: cks, .esc (h _ hd) r, fun e => congrArg (ck ++ ·) (h1 e), ?_⟩
  rw [List.flatten_cons, List.length_append, List.length_cons, List.length_append]
  exact Nat.le_trans (Nat.add_le_add hc (Nat.le_trans h2 (Nat.le_add_left _ _))) (Nat.le_of_eq (Nat.add_comm _ _))
theorem RunB.fail {n2 : List Nat} (h : EscIs (92 :: (body ++ rest)) none) (r : RunB P rest body name br) : RunB P rest (92 :: body) n2 true := by
  obtain ⟨cks, r, h1, h2⟩ := r
  exact ⟨[] :: cks, .fail h r, (fun e => nomatch e), Nat.le_succ_of_le h2⟩
structure PlOk (P : Nat → List Nat → Bool) : Prop where
  all : ∀ c ∈ [97, 125, 32, 8232, 233, 120, 52, 103, 117, 49, 50, 123, 48, 100, 56], ∀ s, P c s = true
  dollar : ∀ s, pk s ≠ 123 → P 36 s = true
noncomputable def eW (i : Nat) : List Nat × List Nat := escW.getD i ([], [])
def HeadOk (s : List Nat) : Prop := isDig (pk s) = false ∧ pk s ≠ 123
noncomputable def PcOk (P : Nat → List Nat → Bool) (i : Nat) : Prop := ∀ rest body name br, RunB P rest body name br → HeadOk (body ++ rest) → RunB P rest ((eW i).1 ++ body) ((eW i).2 ++ name) (decide (26 < i) || br) ∧ HeadOk (((eW i).1 ++ body) ++ rest)
theorem lt34 {Q : Nat → Prop} (h0 : Q 0) (h1 : Q 1) (h2 : Q 2) (h3 : Q 3) (h4 : Q 4) (h5 : Q 5) (h6 : Q 6) (h7 : Q 7) (h8 : Q 8) (h9 : Q 9) (h10 : Q 10) (h11 : Q 11) (h12 : Q 12) (h13 : Q 13) (h14 : Q 14) (h15 : Q 15) (h16 : Q 16) (h17 : Q 17) (h18 : Q 18) (h19 : Q 19) (h20 : Q 20) (h21 : Q 21) (h22 : Q 22) (h23 : Q 23) (h24 : Q 24) (h25 : Q 25) (h26 : Q 26) (h27 : Q 27) (h28 : Q 28) (h29 : Q 29) (h30 : Q 30) (h31 : Q 31) (h32 : Q 32) (h33 : Q 33) : ∀ i, i < 34 → Q i
  | 0, _ => h0 | 1, _ => h1 | 2, _ => h2 | 3, _ => h3 | 4, _ => h4 | 5, _ => h5 | 6, _ => h6 | 7, _ => h7 | 8, _ => h8 | 9, _ => h9 | 10, _ => h10 | 11, _ => h11 | 12, _ => h12 | 13, _ => h13 | 14, _ => h14 | 15, _ => h15 | 16, _ => h16 | 17, _ => h17 | 18, _ => h18 | 19, _ => h19 | 20, _ => h20 | 21, _ => h21 | 22, _ => h22 | 23, _ => h23 | 24, _ => h24 | 25, _ => h25 | 26, _ => h26 | 27, _ => h27 | 28, _ => h28 | 29, _ => h29 | 30, _ => h30 | 31, _ => h31 | 32, _ => h32 | 33, _ => h33
  | n + 34, h => absurd h (Nat.not_lt.mpr (Nat.le_add_left _ _))
theorem pc_plain {i c : Nat} (hi : eW i = ([c], [c])) (hb : decide (26 < i) = false) (hf : far c = false) (hc : HeadOk [c]) (h : ∀ s, pk s ≠ 123 → P c s = true) : PcOk P i := fun rest body name br r hd => by
  rw [hi, hb]; exact ⟨r.plain hf (h _ hd.2), hc⟩
theorem pc_esc {i : Nat} {e ck : List Nat} (hi : eW i = (92 :: e, ck)) (hb : decide (26 < i) = false) (hc : ck.length ≤ 1) (h : ∀ s, isDig (pk s) = false → EscIs (92 :: (e ++ s)) (some (ck, e.length + 1))) : PcOk P i := fun rest body name br r hd => by
  rw [hi, hb]; exact ⟨r.esc h hc hd.1, rfl, by show 92 ≠ 123; decide⟩
theorem pc_fail {i : Nat} {e : List Nat} (hi : eW i = (92 :: e, [])) (hb : decide (26 < i) = true) (hf : ∀ c ∈ e, far c = false ∧ ∀ s, P c s = true) (h : ∀ s, EscIs (92 :: (e ++ s)) none) : PcOk P i := fun rest body name br r hd => by
  rw [hi, hb]
  have go : ∀ e : List Nat, (∀ c ∈ e, far c = false ∧ ∀ s, P c s = true) → RunB P rest (e ++ body) (e ++ name) br := fun e => by
    induction e with
    | nil => exact fun z' => r
    | cons c e ih => exact fun h => (ih fun d hd => h d (List.mem_cons_of_mem _ hd)).plain (h c List.mem_cons_self).1 ((h c List.mem_cons_self).2 _)
  refine ⟨(go e hf).fail ?_, rfl, by show 92 ≠ 123; decide⟩
  rw [List.append_assoc]; exact h _
theorem pc_all (hP : PlOk P) : ∀ i, i < 34 → PcOk P i := by
  have pl : ∀ e : List Nat, e.all (fun c => [97, 125, 32, 8232, 233, 120, 52, 103, 117, 49, 50, 123, 48, 100, 56].contains c && !far c) = true → ∀ c ∈ e, far c = false ∧ ∀ s, P c s = true := fun e h c hc => by
    have := List.all_eq_true.mp h c hc
    rw [Bool.and_eq_true] at this
    exact ⟨(by cases e : far c <;> rw [e] at this <;> first | rfl | cases this.2), hP.all c (List.contains_iff_mem.mp this.1)⟩
  have p : ∀ {i c : Nat}, eW i = ([c], [c]) → decide (26 < i) = false → [c].all (fun c => [97, 125, 32, 8232, 233, 120, 52, 103, 117, 49, 50, 123, 48, 100, 56].contains c && !far c) = true → HeadOk [c] → PcOk P i := fun hi hb h hc => pc_plain hi hb (pl _ h _ List.mem_cons_self).1 hc fun s z' => (pl _ h _ List.mem_cons_self).2 s
  refine lt34 (p rfl rfl rfl ⟨rfl, by decide⟩) ?_ (pc_plain rfl rfl rfl ⟨rfl, by decide⟩ hP.dollar) (p rfl rfl rfl ⟨rfl, by decide⟩) (p rfl rfl rfl ⟨rfl, by decide⟩) (p rfl rfl rfl ⟨rfl, by decide⟩) (p rfl rfl rfl ⟨rfl, by decide⟩) ?_ ?_ ?_ ?_ ?_ (pc_esc rfl rfl (by decide) fun s h n => ?_) ?_ ?_ ?_ ?_ ?_ ?_ ?_ ?_ ?_ ?_ ?_ ?_ ?_ ?_
    (pc_fail rfl rfl (pl _ rfl) fun s n => by kernel_rfl) (pc_fail rfl rfl (pl _ rfl) fun s n => by kernel_rfl) (pc_fail rfl rfl (pl _ rfl) fun s n => by kernel_rfl) (pc_fail rfl rfl (pl _ rfl) fun s n => by kernel_rfl) (pc_fail rfl rfl (pl _ rfl) fun s n => by kernel_rfl) (pc_fail rfl rfl (pl _ rfl) fun s n => by kernel_rfl) (pc_fail rfl rfl (pl _ rfl) fun s n => by kernel_rfl)
  rotate_left 6
  · refine (show _ = bM (isDig (pk s)) failE (okE [0] (n + 2)) by kernel_rfl).trans ?_
    rw [h]; rfl
  all_goals exact pc_esc rfl rfl (by decide) fun s z' n => by kernel_rfl
end
end

section

theorem plS {q : Nat} (h : q = 34 ∨ q = 39) : PlOk (okS q) := by
  refine ⟨fun c hc s => ?_, fun s z' => by rcases h with rfl | rfl <;> rfl⟩
  have : ∀ q, q = 34 ∨ q = 39 → [97, 125, 32, 8232, 233, 120, 52, 103, 117, 49, 50, 123, 48, 100, 56].all (fun c => okS q c []) = true := fun q h => by rcases h with rfl | rfl <;> rfl
  exact List.all_eq_true.mp (this q h) c hc
theorem plT : PlOk okT := by
  refine ⟨fun c hc s => ?_, fun s h => by unfold okT; rw [ne1 h]; rfl⟩
  have : [97, 125, 32, 8232, 233, 120, 52, 103, 117, 49, 50, 123, 48, 100, 56].all (fun c => !([c] == [96]) && (!([c] == [36]) && (!([c] == [92]) && !([c] == [13])))) = true := rfl
  have := List.all_eq_true.mp this c hc
  unfold okT
  cases e : ([c] == [36]) with
  | true => rw [e] at this; cases h2 : ([c] == [96]) <;> rw [h2] at this <;> cases this
  | false => rw [e] at this; exact this
noncomputable def rawOf : List Nat → List Nat
  | [] => []
  | i :: is => (eW i).1 ++ rawOf is
noncomputable def nameOf : List Nat → List Nat
  | [] => []
  | i :: is => (eW i).2 ++ nameOf is
def brOf (is : List Nat) : Bool := is.any fun i => decide (26 < i)
section
variable {is : List Nat} {i : Nat}
theorem raw_snoc : ∀ {is : List Nat}, rawOf (is ++ [i]) = rawOf is ++ (eW i).1
  | [] => List.append_nil _
  | j :: is => by show (eW j).1 ++ rawOf (is ++ [i]) = _; rw [raw_snoc, ← List.append_assoc]; rfl
theorem name_snoc : ∀ {is : List Nat}, nameOf (is ++ [i]) = nameOf is ++ (eW i).2
  | [] => List.append_nil _
  | j :: is => by show (eW j).2 ++ nameOf (is ++ [i]) = _; rw [name_snoc, ← List.append_assoc]; rfl
theorem br_snoc : brOf (is ++ [i]) = (brOf is || decide (26 < i)) := by unfold brOf; rw [List.any_append]; cases h : decide (26 < i) <;> simp [h]
theorem run_all {P : Nat → List Nat → Bool} {rest : List Nat} (hP : PlOk P) (hr : HeadOk rest) : ∀ {is : List Nat}, (∀ i ∈ is, i < 34) → RunB P rest (rawOf is) (nameOf is) (brOf is) ∧ HeadOk (rawOf is ++ rest)
  | [], _ => ⟨.nil, hr⟩
  | i :: is, h => by
    obtain ⟨r, hd⟩ := run_all hP hr (is := is) fun j hj => h j (List.mem_cons_of_mem _ hj)
    exact pc_all hP i (h i List.mem_cons_self) rest _ _ _ r hd
theorem eW_ok (h : i < 34) : (eW i).1.length ≤ 10 ∧ (eW i).2.length ≤ 1 ∧ okW (eW i).2 = true := by
  have : (List.range 34).all (fun i => decide ((eW i).1.length ≤ 10 ∧ (eW i).2.length ≤ 1 ∧ okW (eW i).2 = true)) = true := by decide +kernel
  exact of_decide_eq_true (List.all_eq_true.mp this i (List.mem_range.mpr h))
theorem cook_len : ∀ {is : List Nat}, (∀ i ∈ is, i < 34) → (rawOf is).length ≤ 10 * is.length ∧ (nameOf is).length ≤ is.length ∧ okW (nameOf is) = true
  | [], _ => ⟨Nat.le_refl _, Nat.le_refl _, rfl⟩
  | i :: is, h => by
    obtain ⟨a, b, c⟩ := eW_ok (h i List.mem_cons_self)
    obtain ⟨d, e, f⟩ := cook_len (is := is) fun j hj => h j (List.mem_cons_of_mem _ hj)
    show ((eW i).1 ++ rawOf is).length ≤ 10 * (i :: is).length ∧ ((eW i).2 ++ nameOf is).length ≤ (i :: is).length ∧ okW ((eW i).2 ++ nameOf is) = true
    rw [List.length_append, List.length_append, List.length_cons]
    refine ⟨by omega, by omega, ?_⟩
    unfold okW at c f ⊢
    rw [List.all_append, c, f]; rfl
end
noncomputable def escV : V := .tup (escW.map pairV)
theorem esc_idx {i : Nat} {G : Hp} (h : i < 34) : idxV escV (.int i) G = some (pairV (eW i), G) := by
  have hl : i < escW.length := by rw [show escW.length = 34 by decide +kernel]; exact h
  refine idx_tup (vs := escW.map pairV) ?_
  rw [List.getElem?_map]
  unfold eW
  rw [List.getD_eq_getElem?_getD, List.getElem?_eq_getElem hl]; rfl
section
variable {d s m q : Nat} {xs raw name : List Nat} {br : Bool} {x6 x7 x8 : V} {H G : Hp} {K B : List V → Ms} {R : V → List V → Ms}
noncomputable abbrev cσ (d q : Nat) (raw name : List Nat) (br : Bool) (x6 x7 x8 : V) : List V := [.ref d, .str [q], .str raw, .str name, .bool br, escV, x6, x7, x8, .undef, .undef, .undef, .undef, .undef, .undef, .undef, .undef]
theorem cb_a : execKs T71 n_law_cooked_L7b (cσ d q raw name br x6 x7 x8) K B R G = bnd (f_law_take [.ref d, .int ((41 : Nat) : Int)]) (fun p => execKs T71 (tlN n_law_cooked_L7b) (cσ d q raw name br x6 p x8) K B R) G := by kernel_rfl
theorem cb_b {k : Nat} : execKs T71 (tlN n_law_cooked_L7b) (cσ d q raw name br x6 (.int (k : Nat)) x8) K B R G = bM (decide ((k : Int) > ((33 : Nat) : Int))) (bnd (binV .Sub (.int (k : Nat)) (.int ((34 : Nat) : Int))) fun p => execKs T71 (tlN (tlN n_law_cooked_L7b)) (cσ d q raw name br x6 p x8) K B R) (execKs T71 (tlN (tlN n_law_cooked_L7b)) (cσ d q raw name br x6 (.int (k : Nat)) x8) K B R) G := by kernel_rfl
theorem cb_c {i : Nat} : execKs T71 (tlN (tlN n_law_cooked_L7b)) (cσ d q raw name br x6 (.int (i : Nat)) x8) K B R G = bnd (idxV escV (.int i)) (fun o => execKs T71 (tlN (tlN (tlN n_law_cooked_L7b))) (cσ d q raw name br x6 (.int (i : Nat)) o) K B R) G := by kernel_rfl
theorem cb_d {i : Nat} {a b : List Nat} : execKs T71 (tlN (tlN (tlN n_law_cooked_L7b))) (cσ d q raw name br x6 (.int (i : Nat)) (.tup [.str a, .str b])) K B R G = bnd (addV (.str raw) (.str a)) (fun v => bnd (addV (.str name) (.str b)) fun w => bM br (K [.ref d, .str [q], v, w, .bool br, escV, x6, .int (i : Nat), .tup [.str a, .str b], .undef, .undef, .undef, .undef, .undef, .undef, .undef, .undef]) (K [.ref d, .str [q], v, w, .bool (decide ((i : Int) > ((26 : Nat) : Int))), escV, x6, .int (i : Nat), .tup [.str a, .str b], .undef, .undef, .undef, .undef, .undef, .undef, .undef, .undef])) G := by kernel_rfl
theorem cb_turn (hd : Dr G d s xs m) (hm : m ≤ SZ) (hr : raw.length ≤ 1000) (hn : name.length ≤ 1000) : ∃ i, i < 34 ∧ ∀ (K B : List V → Ms) (R : V → List V → Ms), execKs T71 n_law_cooked_L7b (cσ d q raw name br x6 x7 x8) K B R G = K (cσ d q (raw ++ (eW i).1) (name ++ (eW i).2) (br || decide (26 < i)) x6 (.int (i : Nat)) (pairV (eW i))) (G.set d (drw (m + 1) s)) := by
  obtain ⟨k, hk, ht⟩ := take_ok (m := 41) hd hm (by decide)
  have rest : ∀ {i : Nat} {K B : List V → Ms} {R : V → List V → Ms} {G : Hp}, i < 34 → execKs T71 (tlN (tlN n_law_cooked_L7b)) (cσ d q raw name br x6 (.int (i : Nat)) x8) K B R G = K (cσ d q (raw ++ (eW i).1) (name ++ (eW i).2) (br || decide (26 < i)) x6 (.int (i : Nat)) (pairV (eW i))) G := fun {i K B R G} h => by
    obtain ⟨l1, l2, _⟩ := eW_ok h
    refine cb_c.trans ((bnd_of (esc_idx h)).trans ?_)
    generalize eW i = p at *
    obtain ⟨a, b⟩ := p
    refine cb_d.trans ((bnd_of (adds (Nat.le_trans (Nat.add_le_add hr l1) (by decide)))).trans ((bnd_of (adds (Nat.le_trans (Nat.add_le_add hn l2) (by decide)))).trans ?_))
    rw [show decide ((i : Int) > ((26 : Nat) : Int)) = decide (26 < i) from decide_eq_decide.mpr Int.ofNat_lt]
    cases br with
    | true => exact congrFun (bM_t rfl) G
    | false => exact congrFun (bM_f rfl) G
  by_cases h : 33 < k
  · refine ⟨k - 34, by omega, fun K B R => cb_a.trans ((bnd_of ht).trans (cb_b.trans ((congrFun (bM_t (decide_eq_true (Int.ofNat_lt.mpr h))) _).trans ((bnd_of (show binV .Sub (.int (k : Nat)) (.int ((34 : Nat) : Int)) _ = some (.int ((k : Int) - ((34 : Nat) : Int)), _) from rfl)).trans ?_))))⟩
    rw [← Int.ofNat_sub (show 34 ≤ k from h)]
    exact rest (by omega)
  · exact ⟨k, by omega, fun K B R => cb_a.trans ((bnd_of ht).trans (cb_b.trans ((congrFun (bM_f (decide_eq_false fun z => h (Int.ofNat_lt.mp z))) _).trans (rest (by omega)))))⟩
theorem cb_loop {c : Nat} (hd : Dr H d s xs m) (hm : m + 12 ≤ SZ) (hc : c ≤ 12) : ∃ is x6 x7 x8, is.length = c ∧ (∀ i ∈ is, i < 34) ∧ forN (.inr 6) (.rng 0 (c : Nat)) (execSs T71 n_law_cooked_L7b) FUEL 0 (cσ d q [] [] false .undef .undef .undef) H = some ((.next, cσ d q (rawOf is) (nameOf is) (brOf is) x6 x7 x8), H.set d (drw (m + c) s)) := by
  obtain ⟨a, h, e⟩ := for_range (T := T71) (t := 6) (b := n_law_cooked_L7b) (c := c) (α := List Nat × V × V × V) (fun z' a => cσ d q (rawOf a.1) (nameOf a.1) (brOf a.1) a.2.1 a.2.2.1 a.2.2.2) (fun n z' => H.set d (drw (m + n) s)) (fun n a => a.1.length = n ∧ ∀ i ∈ a.1, i < 34)
    (fun n a hn h => by
      obtain ⟨l1, l2, _⟩ := cook_len h.2
      rw [h.1] at l1 l2
      obtain ⟨i, h34, he⟩ := cb_turn (q := q) (raw := rawOf a.1) (name := nameOf a.1) (br := brOf a.1) (x6 := .int n) (x7 := a.2.2.1) (x8 := a.2.2.2) (hd.set (m := m + n)) (by omega) (by omega) (by omega)
      refine ⟨(a.1 ++ [i], .int n, .int (i : Nat), pairV (eW i)), ⟨by rw [List.length_append, h.1]; rfl, fun j hj => ?_⟩, fun K B R => (he K B R).trans ?_⟩
      · rcases List.mem_append.mp hj with g | g
        · exact h.2 j g
        · rw [List.mem_singleton.mp g]; exact h34
      · rw [raw_snoc, name_snoc, br_snoc, List.set_set]; rfl)
    ([], .undef, .undef, .undef) ⟨rfl, fun i h => (by cases h)⟩ (Nat.lt_of_le_of_lt hc (by decide))
  rw [Nat.add_zero, set_same hd.hd] at e
  exact ⟨a.1, a.2.1, a.2.2.1, a.2.2.2, h.1, h.2, e⟩
end
end

section

section
variable {d q r tl k z : Nat} {raw name t x : List Nat} {br l : Bool} {x6 x7 x8 got told : V} {H G E : Hp}
noncomputable abbrev cτ (d q : Nat) (raw name : List Nat) (br : Bool) (x6 x7 x8 x9 x10 x11 x12 x13 x14 x15 x16 : V) : List V := [.ref d, .str [q], .str raw, .str name, .bool br, escV, x6, x7, x8, x9, x10, x11, x12, x13, x14, x15, x16]
theorem ct_a : endK T71 n_law_cooked_T18 (.next, cσ d q raw name br x6 x7 x8) G = bnd (addV (.str [q]) (.str raw)) (fun v => bnd (addV v (.str [q])) fun v => retK T71 (tlN n_law_cooked_T18) (cτ d q raw name br x6 x7 x8 v .undef .undef .undef .undef .undef .undef .undef)) G := by kernel_rfl
theorem ct_b : retK T71 (tlN n_law_cooked_T18) (cτ d q raw name br x6 x7 x8 (.str t) .undef .undef .undef .undef .undef .undef .undef) G = bnd (f_scan_all [.str t, dgs G.length]) (fun v => retK T71 (tlN (tlN (tlN n_law_cooked_T18))) (cτ d q raw name br x6 x7 x8 (.str t) (dgs G.length) v .undef .undef .undef .undef .undef)) (G ++ [.list []]) := by kernel_rfl
theorem ct_c : retK T71 (tlN (tlN (tlN n_law_cooked_T18))) (cτ d q raw name br x6 x7 x8 (.str t) (dgs r) (.ref tl) .undef .undef .undef .undef .undef) E = bM ([q] == [96]) (retK T71 (tlN (tlN (tlN (tlN n_law_cooked_T18)))) (cτ d q raw name br x6 x7 x8 (.str t) (dgs r) (.ref tl) (.int ((6 : Nat) : Int)) .undef .undef .undef .undef)) (retK T71 (tlN (tlN (tlN (tlN n_law_cooked_T18)))) (cτ d q raw name br x6 x7 x8 (.str t) (dgs r) (.ref tl) (.int ((4 : Nat) : Int)) .undef .undef .undef .undef)) E := by kernel_rfl
theorem ct_d : retK T71 (tlN (tlN (tlN (tlN n_law_cooked_T18)))) (cτ d q raw name br x6 x7 x8 (.str t) (dgs r) (.ref tl) (.int (k : Nat)) .undef .undef .undef .undef) E = bnd (evalE T71 (.comp n_law_cooked_C11e n_law_cooked_C11c (.attr (.loc 10) 9)) (cτ d q raw name br x6 x7 x8 (.str t) (dgs r) (.ref tl) (.int (k : Nat)) .undef .undef .undef .undef)) (fun v => retK T71 (tlN (tlN (tlN (tlN (tlN n_law_cooked_T18))))) (cτ d q raw name br x6 x7 x8 (.str t) (dgs r) (.ref tl) (.int (k : Nat)) v .undef .undef .undef)) E := by kernel_rfl
noncomputable abbrev cK (d q : Nat) (raw name : List Nat) (br : Bool) (x6 x7 x8 : V) (t : List Nat) (r tl k td : Nat) (b : Bool) : M V := retK T71 (tlN (tlN (tlN (tlN (tlN (tlN n_law_cooked_T18)))))) (cτ d q raw name br x6 x7 x8 (.str t) (dgs r) (.ref tl) (.int (k : Nat)) (.ref td) (.bool b) .undef .undef)
theorem ct_e {td : Nat} : retK T71 (tlN (tlN (tlN (tlN (tlN n_law_cooked_T18))))) (cτ d q raw name br x6 x7 x8 (.str t) (dgs r) (.ref tl) (.int (k : Nat)) (.ref td) .undef .undef .undef) E = bnd (biV .len [.ref tl]) (fun n => hB (cmpB .Eq n (.int ((2 : Nat) : Int))) fun b => bM b (bM br (bnd (newL [.tup [.int ((1127 : Nat) : Int), .int ((0 : Nat) : Int)]]) fun l => hB (cmpB .Eq (.ref td) l) fun b => cK d q raw name br x6 x7 x8 t r tl k td b) (bnd (newL []) fun l => hB (cmpB .Eq (.ref td) l) fun b => cK d q raw name br x6 x7 x8 t r tl k td b)) (cK d q raw name br x6 x7 x8 t r tl k td b)) E := by kernel_rfl
theorem ct_f {td : Nat} {b : Bool} : cK d q raw name br x6 x7 x8 t r tl k td b E = bnd (idxV (.ref tl) (.int ((0 : Nat) : Int))) (fun v => retK T71 (tlN (tlN (tlN (tlN (tlN (tlN (tlN n_law_cooked_T18))))))) (cτ d q raw name br x6 x7 x8 (.str t) (dgs r) (.ref tl) (.int (k : Nat)) (.ref td) (.bool b) v .undef)) E := by kernel_rfl
noncomputable abbrev cL (d q : Nat) (raw name : List Nat) (br : Bool) (x6 x7 x8 : V) (t : List Nat) (r tl k td : Nat) (x : List Nat) (z : Nat) (l b : Bool) : M V := retK T71 (tlN (tlN (tlN (tlN (tlN (tlN (tlN (tlN n_law_cooked_T18)))))))) (cτ d q raw name br x6 x7 x8 (.str t) (dgs r) (.ref tl) (.int (k : Nat)) (.ref td) (.bool b) (tok k x 0 0 z l) .undef)
theorem ct_g {td : Nat} : retK T71 (tlN (tlN (tlN (tlN (tlN (tlN (tlN n_law_cooked_T18))))))) (cτ d q raw name br x6 x7 x8 (.str t) (dgs r) (.ref tl) (.int (k : Nat)) (.ref td) (.bool true) (tok k x 0 0 z l) .undef) E = bM ((k : Int) == (k : Int)) (cL d q raw name br x6 x7 x8 t r tl k td x z l ((z : Int) == (t.length : Nat))) (cL d q raw name br x6 x7 x8 t r tl k td x z l ((k : Int) == (k : Int))) E := by kernel_rfl
noncomputable abbrev cM (d q : Nat) (raw name : List Nat) (br : Bool) (x6 x7 x8 : V) (t : List Nat) (r tl k td : Nat) (x : List Nat) (z : Nat) (l b : Bool) (got : V) : M V := retK T71 (tlN (tlN (tlN (tlN (tlN (tlN (tlN (tlN (tlN n_law_cooked_T18))))))))) (cτ d q raw name br x6 x7 x8 (.str t) (dgs r) (.ref tl) (.int (k : Nat)) (.ref td) (.bool b) (tok k x 0 0 z l) got)
noncomputable abbrev cB (e : N) (d q : Nat) (raw name : List Nat) (br : Bool) (x6 x7 x8 : V) (t : List Nat) (r tl k td : Nat) (x : List Nat) (z : Nat) (l : Bool) (got : V) : M V := execKs T71 (.cons (.asg 14 e) .nil) (cτ d q raw name br x6 x7 x8 (.str t) (dgs r) (.ref tl) (.int (k : Nat)) (.ref td) (.bool true) (tok k x 0 0 z l) got) (fun σ => retK T71 (tlN (tlN (tlN (tlN (tlN (tlN (tlN (tlN (tlN n_law_cooked_T18))))))))) σ) (fun z' => failM) (fun v z' => ret v)
theorem ct_h {td : Nat} : cL d q raw name br x6 x7 x8 t r tl k td x z l true E = bM ([q] == [96]) (bnd (f_read_template [.str t, .int ((0 : Nat) : Int)]) fun g => cB n_law_cooked_E15 d q raw name br x6 x7 x8 t r tl k td x z l g) (bnd (f_read_string [.str t, .int ((0 : Nat) : Int)]) fun g => cB n_law_cooked_E17 d q raw name br x6 x7 x8 t r tl k td x z l g) E := by kernel_rfl
theorem ct_h1 {td e c : Nat} : cB n_law_cooked_E15 d q raw name br x6 x7 x8 t r tl k td x z l (.tup [.str x, .int (e : Nat), .int (c : Nat)]) E = bM br (hB (cmpB .Eq (.tup [.int (e : Nat), .int (c : Nat)]) (.tup [.int (t.length : Nat), .int ((2 : Nat) : Int)])) fun b => cM d q raw name br x6 x7 x8 t r tl k td x z l b (.tup [.str x, .int (e : Nat), .int (c : Nat)])) (hB (cmpB .Eq (.tup [.int (e : Nat), .int (c : Nat)]) (.tup [.int (t.length : Nat), .int ((1 : Nat) : Int)])) fun b => cM d q raw name br x6 x7 x8 t r tl k td x z l b (.tup [.str x, .int (e : Nat), .int (c : Nat)])) E := by kernel_rfl
theorem ct_h2 {td e : Nat} {c : Bool} : cB n_law_cooked_E17 d q raw name br x6 x7 x8 t r tl k td x z l (.tup [.str x, .int (e : Nat), .bool c]) E = hB (cmpB .Eq (.tup [.int (e : Nat), .bool c]) (.tup [.int (t.length : Nat), .bool (!br)])) (fun b => cM d q raw name br x6 x7 x8 t r tl k td x z l b (.tup [.str x, .int (e : Nat), .bool c])) E := by kernel_rfl
theorem ct_i {td : Nat} {v w : V} : cM d q raw name br x6 x7 x8 t r tl k td x z l true (.tup [.str x, v, w]) E = bM br (ret (.tup [.str name, .bool br])) (bM (x == name) (ret (.tup [.str name, .bool (x == name)])) (ret (.tup [.str name, .bool (x == name)]))) E := by kernel_rfl
theorem eq2 {e : Nat} {v : V} (h : (eqP v v).getD false = true) : eqPs [.int e, v] [.int e, v] = true := by
  show (((e : Int) == e) && ((eqP v v).getD false && true)) = true
  rw [beq_self_eq_true, h]; rfl
theorem eq_lists {G : Hp} {a b : Nat} {vs : List V} (ha : G[a]? = some (.list vs)) (hb : G[b]? = some (.list vs)) (h : eqVs vs vs = true) : cmpB .Eq (.ref a) (.ref b) G = some true := by
  show oO (on2 (lst (.ref a) G) (lst (.ref b) G) fun x y => sure (eqVs x.2 y.2)) _ = _
  rw [lst_ref ha, lst_ref hb]
  show oO (sure (eqVs vs vs)) _ = _
  rw [h]; rfl
theorem cooked_tail {l' : Bool} (hz : raw.length ≤ 1000) (ht : t = q :: (raw ++ [q])) (hk : k = bif [q] == [96] then 6 else 4)
    (hx : Lx t 0 [] [tok k x 0 0 t.length l, tok 0 [] 0 t.length t.length l'] (tellIf br 0)) (hn : br = false → x = name)
    (hrd : bif [q] == [96] then ∀ H : Hp, f_read_template [.str t, .int ((0 : Nat) : Int)] H = some (.tup [.str x, .int (t.length : Nat), .int (bif br then (2 : Nat) else (1 : Nat) : Nat)], H) else ∀ H : Hp, f_read_string [.str t, .int ((0 : Nat) : Int)] H = some (.tup [.str x, .int (t.length : Nat), .bool (!br)], H)) :
    ∃ gs, endK T71 n_law_cooked_T18 (.next, cσ d q raw name br x6 x7 x8) G = some (.tup [.str name, .bool true], G ++ gs) := by
  have hl : t.length + 2 ≤ SZ := Nat.le_trans (show t.length + 2 ≤ 1004 by rw [ht, List.length_cons, List.length_append, List.length_singleton]; omega) (by decide)
  have tl1 : (tellIf br 0).length ≤ 1 := by cases br <;> decide
  obtain ⟨s', e⟩ := scan_all_ok (r := G.length) (rows := []) (H := G ++ [.list []]) hl hx get_new (by show 2 ≤ SZ; decide) (by rw [List.length_nil, Nat.zero_add]; exact Nat.lt_of_le_of_lt tl1 (by decide))
  rw [set_new, List.length_append, List.nil_append, Q, List.append_assoc] at e
  let out : List V := [tok k x 0 0 t.length l, tok 0 [] 0 t.length t.length l']
  let l4 : List O := [.list (tellIf br 0), s', .list [], .list out]
  let td : List V := (tellIf br 0).filterMap tellRow
  have c1 := comp_ap (T := T71) (H := G) (l := l4) (elt := n_law_cooked_C11e) (c := n_law_cooked_C11c) (it := .attr (.loc 10) 9) (σ := cτ d q raw name br x6 x7 x8 (.str t) (dgs G.length) (.ref (G.length + 3)) (.int (k : Nat)) .undef .undef .undef .undef) (f := tellRow) (o := .ref G.length) (vs := tellIf br 0) (by kernel_rfl) (Nat.le_trans tl1 (by decide))
    (fun x n => item_ref (ap_old (ap_get (i := 0) rfl))) fun v hv x K => by
      have : v = told 1127 0 [.str [92]] := by
        cases br with
        | true => exact List.mem_singleton.mp hv
        | false => cases hv
      subst this
      kernel_rfl
  have hb : eqVs td td = true := by show eqVs ((tellIf br 0).filterMap tellRow) ((tellIf br 0).filterMap tellRow) = true; cases br <;> rfl
  have hout : ∀ {m : List O}, (G ++ (l4 ++ m))[G.length + 3]? = some (.list out) := fun {m} => ap_get (i := 3) rfl
  have hk6 : ∃ m, bM br (bnd (newL [.tup [.int ((1127 : Nat) : Int), .int ((0 : Nat) : Int)]]) fun l => hB (cmpB .Eq (.ref (G.length + 4)) l) fun b => cK d q raw name br x6 x7 x8 t G.length (G.length + 3) k (G.length + 4) b) (bnd (newL []) fun l => hB (cmpB .Eq (.ref (G.length + 4)) l) fun b => cK d q raw name br x6 x7 x8 t G.length (G.length + 3) k (G.length + 4) b) (G ++ (l4 ++ [.list td])) = cK d q raw name br x6 x7 x8 t G.length (G.length + 3) k (G.length + 4) true (G ++ (l4 ++ m)) := by
    refine ⟨[.list td, .list td], ?_⟩
    have g1 : (G ++ (l4 ++ [O.list td, .list td]))[G.length + 4]? = some (.list td) := ap_get (i := 4) rfl
    have g2 : (G ++ (l4 ++ [O.list td, .list td]))[G.length + 5]? = some (.list td) := ap_get (i := 5) rfl
    have key := eq_lists g1 g2 hb
    revert key
    show cmpB .Eq (.ref (G.length + 4)) (.ref (G.length + 5)) (G ++ (l4 ++ [O.list ((tellIf br 0).filterMap tellRow), .list ((tellIf br 0).filterMap tellRow)])) = some true → bM br _ _ (G ++ (l4 ++ [O.list ((tellIf br 0).filterMap tellRow)])) = cK d q raw name br x6 x7 x8 t G.length (G.length + 3) k (G.length + 4) true (G ++ (l4 ++ [O.list ((tellIf br 0).filterMap tellRow), .list ((tellIf br 0).filterMap tellRow)]))
    cases hbr : br with
    | true => exact fun key => (congrFun (bM_t rfl) _).trans ((bnd_of new_ap).trans (hB_of key))
    | false => exact fun key => (congrFun (bM_f rfl) _).trans ((bnd_of new_ap).trans (hB_of key))
  obtain ⟨m, hk6⟩ := hk6
  refine ⟨l4 ++ m, ct_a.trans ((bnd_of (adds (Nat.le_trans (show 1 + raw.length ≤ 2000 by omega) (by decide)))).trans ((bnd_of (adds (Nat.le_trans (show ([q] ++ raw).length + 1 ≤ 2000 by rw [List.length_append, List.length_singleton]; omega) (by decide)))).trans ?_))⟩
  rw [show ([q] ++ raw) ++ [q] = t by rw [ht]; rfl]
  refine ct_b.trans ((bnd_of e).trans ?_)
  show retK T71 (tlN (tlN (tlN n_law_cooked_T18))) (cτ d q raw name br x6 x7 x8 (.str t) (dgs G.length) (.ref (G.length + 3)) .undef .undef .undef .undef .undef) (G ++ l4) = some (.tup [.str name, .bool true], G ++ (l4 ++ m))
  refine ct_c.trans ?_
  have main : retK T71 (tlN (tlN (tlN (tlN n_law_cooked_T18)))) (cτ d q raw name br x6 x7 x8 (.str t) (dgs G.length) (.ref (G.length + 3)) (.int (k : Nat)) .undef .undef .undef .undef) (G ++ l4) = some (.tup [.str name, .bool true], G ++ (l4 ++ m)) := by
    refine ct_d.trans ((bnd_of c1).trans (ct_e.trans ((bnd_of (len_ref (hout (m := [.list td])))).trans ?_)))
    refine (hB_of (show cmpB .Eq (.int ((2 : Nat) : Int)) (.int ((2 : Nat) : Int)) _ = some true from rfl)).trans ((congrFun (bM_t rfl) _).trans (hk6.trans (ct_f.trans ((bnd_of (idx_ref (j := 0) hout rfl rfl)).trans (ct_g.trans ?_)))))
    rw [beq_self_eq_true, beq_self_eq_true]
    refine (congrFun (bM_t rfl) _).trans (ct_h.trans ?_)
    have fin : ∀ {v w : V} {E : Hp}, cM d q raw name br x6 x7 x8 t G.length (G.length + 3) k (G.length + 4) x t.length l true (.tup [.str x, v, w]) E = some (.tup [.str name, .bool true], E) := fun {v w E} => by
      refine ct_i.trans ?_
      cases hbr : br with
      | true => rfl
      | false => rw [hn hbr, beq_self_eq_true]; rfl
    revert hrd
    cases ([q] == [96]) with
    | true =>
      intro hrd
      refine (congrFun (bM_t rfl) _).trans ((bnd_of (hrd _)).trans (ct_h1.trans ?_))
      revert fin
      cases br with
      | true => exact fun fin => (congrFun (bM_t rfl) _).trans ((hB_of (eq_same (eq2 rfl))).trans fin)
      | false => exact fun fin => (congrFun (bM_f rfl) _).trans ((hB_of (eq_same (eq2 rfl))).trans fin)
    | false =>
      intro hrd
      exact (congrFun (bM_f rfl) _).trans ((bnd_of (hrd _)).trans (ct_h2.trans ((hB_of (eq_same (eq2 (by cases br <;> rfl)))).trans fin)))
  subst hk
  revert main
  cases ([q] == [96]) with
  | true => exact fun main => (congrFun (bM_t rfl) _).trans main
  | false => exact fun main => (congrFun (bM_f rfl) _).trans main
end
end

section

noncomputable def f_law_cooked : Fn := trunc 0 (runF T71 17 1 n_law_cooked)
section
variable {d q : Nat} {es : V} {H G : Hp}
theorem ck_a : runK T71 17 1 n_law_cooked [.ref d] H = bnd (f_law_take [.ref d, .int ((3 : Nat) : Int)]) (fun k => bnd (idxV (.tup [.str [34], .str [39], .str [96]]) k) fun q => retK T71 (tlN n_law_cooked) [.ref d, q, .undef, .undef, .undef, .undef, .undef, .undef, .undef, .undef, .undef, .undef, .undef, .undef, .undef, .undef, .undef]) H := by kernel_rfl
theorem ck_b : retK T71 (tlN n_law_cooked) [.ref d, .str [q], .undef, .undef, .undef, .undef, .undef, .undef, .undef, .undef, .undef, .undef, .undef, .undef, .undef, .undef, .undef] G = bnd (f_law_escapes []) (fun es => bnd (f_law_take [.ref d, .int ((13 : Nat) : Int)]) fun c => bnd (biV .rng [c]) fun o => bnd (forN (.inr 6) o (execSs T71 n_law_cooked_L7b) FUEL 0 [.ref d, .str [q], .str [], .str [], .bool false, es, .undef, .undef, .undef, .undef, .undef, .undef, .undef, .undef, .undef, .undef, .undef]) (endK T71 n_law_cooked_T18)) G := by kernel_rfl
theorem cooked_text {is : List Nat} (hq : q = 34 ∨ q = 39 ∨ q = 96) (hi : ∀ i ∈ is, i < 34) (hz : is.length ≤ 12) :
    ∃ (x : List Nat) (l l' : Bool), Lx (q :: (rawOf is ++ [q])) 0 [] [tok (bif [q] == [96] then 6 else 4) x 0 0 (q :: (rawOf is ++ [q])).length l, tok 0 [] 0 (q :: (rawOf is ++ [q])).length (q :: (rawOf is ++ [q])).length l'] (tellIf (brOf is) 0) ∧ (brOf is = false → x = nameOf is) ∧
      (bif [q] == [96] then ∀ H : Hp, f_read_template [.str (q :: (rawOf is ++ [q])), .int ((0 : Nat) : Int)] H = some (.tup [.str x, .int ((q :: (rawOf is ++ [q])).length : Nat), .int (bif brOf is then (2 : Nat) else (1 : Nat) : Nat)], H) else ∀ H : Hp, f_read_string [.str (q :: (rawOf is ++ [q])), .int ((0 : Nat) : Int)] H = some (.tup [.str x, .int ((q :: (rawOf is ++ [q])).length : Nat), .bool (!brOf is)], H)) := by
  obtain ⟨l1, _, _⟩ := cook_len hi
  have hr : (rawOf is).length ≤ 120 := Nat.le_trans l1 (Nat.mul_le_mul_left 10 hz)
  have hl : (q :: (rawOf is ++ [q])).length = (rawOf is).length + 2 := by rw [List.length_cons, List.length_append]; rfl
  have ht : (q :: (rawOf is ++ [q])).length + 2 ≤ SZ := Nat.le_trans (show _ ≤ 200 by rw [hl]; omega) (by decide)
  have hd : (q :: (rawOf is ++ [q])).drop ((rawOf is).length + 2) = [] := List.drop_eq_nil_of_le (Nat.le_of_eq hl)
  have str : ∀ q, q = 34 ∨ q = 39 → q ≠ 96 ∧ isLE q = false ∧ ([92] == [q]) = false ∧ HeadOk [q] ∧ stopB (q :: (rawOf is ++ [q])) := fun q h => by
    rcases h with rfl | rfl <;> exact ⟨by decide, rfl, rfl, ⟨rfl, by decide⟩, rfl, rfl⟩
  by_cases hs : q = 34 ∨ q = 39
  · obtain ⟨h96, h1, h2, h3, h4⟩ := str q hs
    obtain ⟨⟨cks, r, hn, hc⟩, _⟩ := run_all (plS hs) h3 hi
    have hcz : cks.flatten.length ≤ SZ := Nat.le_trans hc (Nat.le_trans hr (by decide))
    refine ⟨cks.flatten, false, false, ?_, hn, ?_⟩
    · have := Lx.tk (t := q :: (rawOf is ++ [q])) (n := 0) (bs := []) (hs := []) (hs' := []) (.str hs r) rfl h4 (List.cons_ne_nil _ _) rfl rfl hcz (.out rfl) (Lx.fin (n := 0 + ([] : List Nat).length + ((rawOf is).length + 2)) (bs := []) (by rw [List.length_nil, Nat.zero_add]; exact hd) rfl)
      rw [List.append_nil, show 0 + ([] : List Nat).length + ((rawOf is).length + 2) = (q :: (rawOf is ++ [q])).length by rw [hl]; exact Nat.zero_add _] at this
      rw [ne1 h96]
      exact this
    · rw [ne1 h96]
      refine fun H => (read_string_ok h1 h2 ht r rfl hcz).trans ?_
      rw [hl, Nat.zero_add]
  · have h96 : q = 96 := by
      rcases hq with h | h | h
      · exact absurd (.inl h) hs
      · exact absurd (.inr h) hs
      · exact h
    subst h96
    obtain ⟨⟨cks, r, hn, hc⟩, _⟩ := run_all (rest := [96]) plT ⟨rfl, by decide⟩ hi
    have hcz : cks.flatten.length ≤ SZ := Nat.le_trans hc (Nat.le_trans hr (by decide))
    refine ⟨cks.flatten, false, false, ?_, hn, ?_⟩
    · have := Lx.tk (t := 96 :: (rawOf is ++ [96])) (n := 0) (bs := []) (hs := []) (hs' := []) (.tpl (.inl ⟨[], rfl, rfl, rfl⟩) r) rfl ⟨rfl, rfl⟩ (List.cons_ne_nil _ _) rfl rfl hcz (.out rfl) (Lx.fin (n := 0 + ([] : List Nat).length + (1 + (rawOf is).length + 1)) (bs := []) (by rw [List.length_nil, Nat.zero_add, Nat.add_comm 1]; exact hd) rfl)
      rw [List.append_nil, show 0 + ([] : List Nat).length + (1 + (rawOf is).length + 1) = (96 :: (rawOf is ++ [96])).length by rw [hl, List.length_nil]; omega] at this
      exact this
    · show ∀ H : Hp, _
      refine fun H => (read_template_ok (.inl ⟨[], rfl, rfl, rfl⟩) ht r rfl hcz).trans ?_
      rw [hl, show 0 + 1 + (rawOf is).length + 1 = (rawOf is).length + 2 by omega]
      cases brOf is <;> rfl
theorem drw_closed {n s k : Nat} (h : s < k) : coB k (drw n s) = true := by
  show (true && (decide (s < k) && true)) = true
  rw [decide_eq_true h]; rfl
theorem set_closed {H : Hp} {d s n : Nat} (hs : s < H.length) : ∀ (j : Nat) (o : O), (H.set d (drw n s))[j]? = some o → H[j]? = some o ∨ coB (H.set d (drw n s)).length o = true := fun j o h => by
  by_cases e : d = j
  · subst e
    have hl := (List.getElem?_eq_some_iff.mp h).1
    rw [List.length_set] at hl
    rw [List.getElem?_set_self hl] at h
    cases h
    exact .inr (drw_closed (by rw [List.length_set]; exact hs))
  · rw [List.getElem?_set_ne e] at h; exact .inl h
theorem cooked_ok {s n : Nat} {xs : List Nat} (h : Dr H d s xs n) (hn : n + 20 ≤ SZ) : ∃ w m, okW w = true ∧ w.length ≤ 36 ∧ m ≤ n + 14 ∧ f_law_cooked [.ref d] H = some (.tup [.str w, .bool true], H.set d (drw m s)) := by
  obtain ⟨k, hk, t1⟩ := take_ok (m := 3) h (by omega) (by decide)
  obtain ⟨q, hq, hq'⟩ : ∃ q, [V.str [34], .str [39], .str [96]][k]? = some (.str [q]) ∧ (q = 34 ∨ q = 39 ∨ q = 96) := by
    match k, hk with
    | 0, _ => exact ⟨34, rfl, .inl rfl⟩
    | 1, _ => exact ⟨39, rfl, .inr (.inl rfl)⟩
    | 2, _ => exact ⟨96, rfl, .inr (.inr rfl)⟩
  have h1 := h.set (m := n + 1)
  obtain ⟨c, hc, t2⟩ := take_ok (m := 13) h1 (by omega) (by decide)
  rw [List.set_set] at t2
  have h2 := h.set (m := n + 1 + 1)
  obtain ⟨is, x6, x7, x8, hl, hi, e⟩ := cb_loop (q := q) (c := c) h2 (by omega) (by omega)
  rw [List.set_set] at e
  obtain ⟨l1, l2, l3⟩ := cook_len hi
  obtain ⟨x, l, l', hx, hn', hrd⟩ := cooked_text hq' hi (by omega)
  obtain ⟨gs, e2⟩ := cooked_tail (d := d) (x6 := x6) (x7 := x7) (x8 := x8) (G := H.set d (drw (n + 1 + 1 + c) s)) (by omega) rfl rfl hx hn' hrd
  have hsl := (List.getElem?_eq_some_iff.mp h.hs).1
  refine ⟨nameOf is, n + 1 + 1 + c, l3, by omega, by omega, trunc_eq (G := gs) (runK_le H _ ?_) (by rw [List.length_set]; rfl) rfl (set_closed hsl)⟩
  refine ck_a.trans ((bnd_of t1).trans ((bnd_of (idx_tup hq)).trans (ck_b.trans ((bnd_of escapes_ok).trans ((bnd_of t2).trans ((bnd_of (rng_of (Nat.le_trans (Nat.le_of_lt hc) (by decide)))).trans ((bnd_of e).trans e2)))))))
end
noncomputable def T72 : Tab := extT T71 840 f_law_cooked
end

section

noncomputable def f_law_name : Fn := runF T72 7 1 n_law_name
noncomputable def otherW : List V := [.str [103, 101, 116], .str [115, 101, 116], .str [117, 110, 100, 101, 102, 105, 110, 101, 100], .str [111, 102], .str [108, 101, 116], .str [97, 115], .str [115, 116, 97, 116, 105, 99], .str [99, 111, 110, 115, 116, 114, 117, 99, 116, 111, 114], .str [78, 97, 78], .str [97, 110, 121], .str [36], .str [95]]
noncomputable def digW : List V := [.str [48], .str [48, 48], .str [48, 48, 55], .str [55], .str [49, 50, 51, 52, 53, 54, 55, 56, 57, 48, 49, 50, 51, 52, 53], .str [57, 57, 57, 57, 57, 57, 57, 57, 57, 57, 57, 57, 57, 57, 57], .str [49, 48, 48, 48, 48, 48, 48, 48, 48, 48, 48, 48, 48, 48, 48, 48], .str [57, 48, 48, 55, 49, 57, 57, 50, 53, 52, 55, 52, 48, 57, 57, 49], .str [57, 48, 48, 55, 49, 57, 57, 50, 53, 52, 55, 52, 48, 57, 57, 50], .str [48, 49, 50, 51, 52, 53, 54, 55, 56, 57, 48, 49, 50, 51, 52], .str [49, 101, 51], .str [49, 95, 48], .str [45, 49], .str [49, 46, 53], .str [52, 50, 57, 52, 57, 54, 55, 50, 57, 53], .str [48, 120, 49], .str [49, 48], .str [49, 97]]
section
variable {d k s n : Nat} {xs w : List Nat} {ws : List V} {H G : Hp} {x6 : V}
noncomputable abbrev nσ (d k : Nat) (x2 x3 x4 x5 x6 : V) : List V := [.ref d, .int (k : Nat), x2, x3, x4, x5, x6]
theorem nm_a : runK T72 7 1 n_law_name [.ref d] H = bnd (f_law_take [.ref d, .int ((8 : Nat) : Int)]) (fun k => retK T72 (tlN n_law_name) [.ref d, k, .undef, .undef, .undef, .undef, .undef]) H := by kernel_rfl
noncomputable abbrev nB (b n : N) (d k : Nat) : M V := execKs T72 b (nσ d k .undef .undef .undef .undef .undef) (fun σ => retK T72 n σ) (fun z' => failM) (fun v z' => ret v)
theorem nm_b : retK T72 (tlN n_law_name) (nσ d k .undef .undef .undef .undef .undef) G = bM ((k : Int) == ((5 : Nat) : Int)) (nB n_law_name_B3 (tlN (tlN n_law_name)) d k) (bM ((k : Int) == ((6 : Nat) : Int)) (nB n_law_name_B5 (tlN (tlN (tlN n_law_name))) d k) (bM ((k : Int) == ((7 : Nat) : Int)) (bnd (f_law_cooked [.ref d]) ret)
    (bnd (f_law_take [.ref d, .int ((13 : Nat) : Int)]) fun c => bnd (biV .rng [c]) fun o => bnd (forN (.inr 6) o (execSs T72 n_law_name_L7b) FUEL 0 (nσ d k .undef .undef .undef (.str []) .undef)) (endK T72 n_law_name_T8)))) G := by kernel_rfl
theorem nm_3 {m : N} : nB n_law_name_B3 m d k G = bnd (f_law_reserved []) (fun v => bnd (addV v (.tup otherW)) fun w => execKs T72 (tlN (tlN n_law_name_B3)) (nσ d k (.tup otherW) w .undef .undef .undef) (fun σ => retK T72 m σ) (fun z' => failM) (fun v z' => ret v)) G := by kernel_rfl
theorem nm_3b {m : N} {o : V} : execKs T72 (tlN (tlN n_law_name_B3)) (nσ d k o (.tup ws) .undef .undef .undef) (fun σ => retK T72 m σ) (fun z' => failM) (fun v z' => ret v) G = bnd (f_law_take [.ref d, .int ((48 : Nat) : Int)]) (fun k => bnd (idxV (.tup ws) k) fun v => ret (.tup [v, .bool true])) G := by kernel_rfl
theorem nm_5 {m : N} : nB n_law_name_B5 m d k G = bnd (f_law_take [.ref d, .int ((18 : Nat) : Int)]) (fun k => bnd (idxV (.tup digW) k) fun v => ret (.tup [v, .bool true])) G := by kernel_rfl
theorem nm_7 {K B : List V → Ms} {R : V → List V → Ms} : execKs T72 n_law_name_L7b (nσ d k .undef .undef .undef (.str w) x6) K B R G = bnd (f_law_piece [.ref d]) (fun v => bnd (addV (.str w) v) fun v => K (nσ d k .undef .undef .undef v x6)) G := by kernel_rfl
theorem add_tup {a b : List V} (hz : a.length + b.length ≤ SZ) : addV (.tup a) (.tup b) H = some (.tup (a ++ b), H) :=
  (orM_none rfl).trans ((orM_none rfl).trans (orM_of (show gd (a.length + b.length ≤ SZ) (ret (V.tup (a ++ b))) H = _ from gd_H hz)))
theorem nm_loop {c : Nat} (hd : Dr H d s xs n) (hn : n + 12 ≤ SZ) (hc : c ≤ 12) : ∃ w x6, okW w = true ∧ w.length ≤ 3 * c ∧ forN (.inr 6) (.rng 0 (c : Nat)) (execSs T72 n_law_name_L7b) FUEL 0 (nσ d k .undef .undef .undef (.str []) .undef) H = some ((.next, nσ d k .undef .undef .undef (.str w) x6), H.set d (drw (n + c) s)) := by
  obtain ⟨a, h, e⟩ := for_range (T := T72) (t := 6) (b := n_law_name_L7b) (c := c) (α := List Nat × V) (fun z' a => nσ d k .undef .undef .undef (.str a.1) a.2) (fun j z' => H.set d (drw (n + j) s)) (fun j a => okW a.1 = true ∧ a.1.length ≤ 3 * j)
    (fun j a hj h => by
      obtain ⟨u, ha, hb, e⟩ := piece_ok (hd.set (m := n + j)) (by omega)
      rw [List.set_set] at e
      have hl : (a.1 ++ u).length ≤ 3 * (j + 1) := by rw [List.length_append]; exact Nat.add_le_add h.2 hb
      refine ⟨(a.1 ++ u, .int j), ⟨?_, hl⟩, fun K B R => nm_7.trans ((bnd_of e).trans (bnd_of (adds ?_)))⟩
      · have h1 := h.1
        unfold okW at ha h1 ⊢
        rw [List.all_append, ha, h1]; rfl
      · rw [← List.length_append]; exact Nat.le_trans hl (Nat.le_trans (Nat.mul_le_mul_left 3 (Nat.succ_le_succ (Nat.le_trans (Nat.le_of_lt hj) hc))) (by decide)))
    ([], .undef) ⟨rfl, Nat.le_refl _⟩ (Nat.lt_of_le_of_lt hc (by decide))
  rw [Nat.add_zero, set_same hd.hd] at e
  exact ⟨a.1, a.2, h.1, h.2, e⟩
theorem name_ok (h : Dr H d s xs n) (hn : n + 40 ≤ SZ) : ∃ w m, okW w = true ∧ w.length ≤ 40 ∧ m ≤ n + 20 ∧ f_law_name [.ref d] H = some (.tup [.str w, .bool true], H.set d (drw m s)) := by
  obtain ⟨k, hk, t1⟩ := take_ok (m := 8) h (by omega) (by decide)
  have h1 := h.set (m := n + 1)
  have pick : ∀ {vs : List V} {c : Nat}, vs.all (okV 36) = true → vs.length = c → 0 < c → ∃ w, okW w = true ∧ w.length ≤ 40 ∧ bnd (f_law_take [.ref d, .int (c : Nat)]) (fun k => bnd (idxV (.tup vs) k) fun v => ret (V.tup [v, .bool true])) (H.set d (drw (n + 1) s)) = some (V.tup [.str w, .bool true], H.set d (drw (n + 2) s)) := fun {vs c} ha hl hc => by
    obtain ⟨j, hj, t2⟩ := take_ok (m := c) h1 (by omega) hc
    rw [List.set_set] at t2
    obtain ⟨v, hv, ho⟩ := idx_all (j := j) (H := H.set d (drw (n + 1 + 1) s)) ha (by rw [hl]; exact hj)
    obtain ⟨w, rfl, a, b⟩ := okV_eq ho
    exact ⟨w, a, Nat.le_trans b (by decide), (bnd_of t2).trans ((bnd_of hv).trans rfl)⟩
  suffices hh : ∃ w m, okW w = true ∧ w.length ≤ 40 ∧ m ≤ n + 20 ∧ retK T72 (tlN n_law_name) (nσ d k .undef .undef .undef .undef .undef) (H.set d (drw (n + 1) s)) = some (.tup [.str w, .bool true], H.set d (drw m s)) by
    obtain ⟨w, m, a, b, c, e⟩ := hh
    exact ⟨w, m, a, b, c, runK_le H _ (nm_a.trans ((bnd_of t1).trans e))⟩
  rw [nm_b]
  cases ((k : Int) == ((5 : Nat) : Int)) with
  | true =>
    obtain ⟨w, a, b, e⟩ := pick (vs := resW.map .str ++ otherW) (c := 48) (by kernel_rfl) (by kernel_rfl) (by decide)
    refine ⟨w, n + 2, a, b, by omega, (congrFun (bM_t rfl) _).trans (nm_3.trans ((bnd_of reserved_ok).trans ((bnd_of (add_tup (by decide +kernel))).trans (nm_3b.trans e))))⟩
  | false => cases ((k : Int) == ((6 : Nat) : Int)) with
    | true =>
      obtain ⟨w, a, b, e⟩ := pick (vs := digW) (c := 18) (by kernel_rfl) (by kernel_rfl) (by decide)
      exact ⟨w, n + 2, a, b, by omega, (congrFun (bM_f rfl) _).trans ((congrFun (bM_t rfl) _).trans (nm_5.trans e))⟩
    | false => cases ((k : Int) == ((7 : Nat) : Int)) with
      | true =>
        obtain ⟨w, m, a, b, c, e⟩ := cooked_ok h1 (by omega)
        rw [List.set_set] at e
        exact ⟨w, m, a, Nat.le_trans b (by decide), by omega, (congrFun (bM_f rfl) _).trans ((congrFun (bM_f rfl) _).trans ((congrFun (bM_t rfl) _).trans ((bnd_of e).trans rfl)))⟩
      | false =>
        obtain ⟨c, hc, t2⟩ := take_ok (m := 13) h1 (by omega) (by decide)
        rw [List.set_set] at t2
        obtain ⟨w, x6, a, b, e⟩ := nm_loop (k := k) (c := c) (h.set (m := n + 1 + 1)) (by omega) (by omega)
        rw [List.set_set] at e
        refine ⟨w, n + 1 + 1 + c, a, by omega, by omega, (congrFun (bM_f rfl) _).trans ((congrFun (bM_f rfl) _).trans ((congrFun (bM_f rfl) _).trans ((bnd_of t2).trans ((bnd_of (rng_of (Nat.le_trans (Nat.le_of_lt hc) (by decide)))).trans ((bnd_of e).trans ?_)))))⟩
        kernel_rfl
end
noncomputable def T73 : Tab := extT T72 847 f_law_name
end

section

section
variable {base : Hp} {s m : Nat} {ys : List Nat} {nw : List Item} {x4 x5 x6 : V} {G : Hp}
noncomputable abbrev lH (base : Hp) (m s : Nat) (nw : List Item) : Hp := Q base (drw m s) (.list (nw.map fun p => .str p.1)) (.list (nw.map fun p => .int (p.2 : Nat)))
noncomputable abbrev lσ (s L : Nat) (x4 x5 x6 x7 : V) : List V := [.ref s, .ref L, .ref (L + 1), .ref (L + 2), x4, x5, x6, x7]
theorem lH_dr (hs : base[s]? = some (.list (natsV ys))) (hn : ys ≠ []) (hz : ys.length ≤ SZ) : Dr (lH base m s nw) base.length s ys m :=
  ⟨Q0 rfl, Qr hs, Ne.symm (Nat.ne_of_lt (List.getElem?_eq_some_iff.mp hs).1), hn, hz⟩
theorem l_join {L : Nat} {K B : List V → Ms} {R : V → List V → Ms} : execKs T73 n_law_L6b (lσ s L x4 x5 x6 .undef) K B R G = bnd (bmeth (.str []) 3 [.ref (L + 1)]) (fun v => bnd (biV .len [v]) fun n => hB (cmpB .Lt n (.int ((25 : Nat) : Int))) fun r => bM r (execKs T73 n_law_B5 (lσ s L x4 x5 x6 .undef) K B R) (K (lσ s L x4 x5 x6 .undef))) G := by kernel_rfl
theorem l_name {L : Nat} {K B : List V → Ms} {R : V → List V → Ms} : execKs T73 n_law_B5 (lσ s L x4 x5 x6 .undef) K B R G = bnd (f_law_name [.ref L]) (fun v => oB (bindT (.inl [5, 6]) v (lσ s L x4 x5 x6 .undef)) fun σ => execKs T73 (tlN n_law_B5) σ K B R) G := by kernel_rfl
theorem l_judge {L : Nat} {w : List Nat} {K B : List V → Ms} {R : V → List V → Ms} : execKs T73 (tlN n_law_B5) (lσ s L x4 (.str w) (.bool true) .undef) K B R G = bnd (f_law_judged [.str w]) (fun v => bnd (truthyM v) fun t => bM t (execKs T73 (tlN (tlN n_law_B5)) (lσ s L x4 (.str w) (.bool true) .undef) K B R) (execKs T73 (.cons (.rtn (.lit (.bool .false))) .nil) (lσ s L x4 (.str w) (.bool true) .undef) (fun σ => execKs T73 (tlN (tlN n_law_B5)) σ K B R) B R)) G := by kernel_rfl
theorem l_push {L : Nat} {w : List Nat} {K B : List V → Ms} {R : V → List V → Ms} : execKs T73 (tlN (tlN n_law_B5)) (lσ s L x4 (.str w) (.bool true) .undef) K B R G = hB (recvK (.ref (L + 1)) 0) (fun f => bnd (methV T73 f (.ref (L + 1)) 0 [.str w]) fun z' => hB (recvK (.ref (L + 2)) 0) fun f => bnd (f_law_take [.ref L, .int ((2 : Nat) : Int)]) fun k => bnd (binV .Add (.int ((1 : Nat) : Int)) k) fun k => bnd (methV T73 f (.ref (L + 2)) 0 [k]) fun z' => K (lσ s L x4 (.str w) (.bool true) .undef)) G := by kernel_rfl
theorem flat_all {n : Nat} : ∀ {ts : List (List Nat)}, (∀ t ∈ ts, t.length ≤ n) → ts.flatten.length ≤ n * ts.length
  | [], _ => Nat.zero_le _
  | t :: ts, h => by
    have := flat_all (ts := ts) fun u hu => h u (List.mem_cons_of_mem _ hu)
    rw [List.flatten_cons, List.length_append, List.length_cons, Nat.mul_succ]
    exact Nat.le_trans (Nat.add_le_add (h t List.mem_cons_self) this) (Nat.le_of_eq (Nat.add_comm _ _))
theorem l_turn (hs : base[s]? = some (.list (natsV ys))) (hne : ys ≠ []) (hz : ys.length ≤ SZ) (hm : m + 100 ≤ SZ) (hi : ∀ p ∈ nw, ItOk p) (hl : nw.length ≤ 10) :
    ∃ nw' m' x5' x6', nw' ≠ [] ∧ (∀ p ∈ nw', ItOk p) ∧ nw'.length ≤ nw.length + 1 ∧ m' ≤ m + 25 ∧ ∀ (K B : List V → Ms) (R : V → List V → Ms), execKs T73 n_law_L6b (lσ s base.length x4 x5 x6 .undef) K B R (lH base m s nw) = K (lσ s base.length x4 x5' x6' .undef) (lH base m' s nw') := by
  have hd := lH_dr (m := m) (nw := nw) hs hne hz
  have hfl : (nw.map (·.1)).flatten.length ≤ 40 * nw.length := by
    have := flat_all (n := 40) (ts := nw.map (·.1)) fun t ht => by
      obtain ⟨p, hp, rfl⟩ := List.mem_map.mp ht
      exact (hi p hp).2.1
    rw [List.length_map] at this; exact this
  have hj : bmeth (.str []) 3 [.ref (base.length + 1)] (lH base m s nw) = some (.str (nw.map (·.1)).flatten, lH base m s nw) := join_ok (by rw [Q1 rfl, List.map_map]; rfl) (Nat.le_trans hfl (Nat.le_trans (Nat.mul_le_mul_left 40 hl) (by decide)))
  by_cases h25 : (nw.map (·.1)).flatten.length < 25
  · obtain ⟨w, m1, a, b, c, e⟩ := name_ok hd (by omega)
    rw [Q0s rfl] at e
    have hd1 := lH_dr (m := m1) (nw := nw) hs hne hz
    let nw1 := nw ++ [((w, 0) : Item)]
    obtain ⟨k, hk, e2⟩ := take_ok (H := Q base (drw m1 s) (.list (nw.map (fun p => .str p.1) ++ [.str w])) (.list (nw.map fun p => .int (p.2 : Nat)))) (m := 2) (⟨Q0 rfl, Qr hs, hd1.ne, hne, hz⟩ : Dr _ base.length s ys m1) (by omega) (by decide)
    rw [Q0s rfl] at e2
    refine ⟨nw ++ [(w, 1 + k)], m1 + 1, .str w, .bool true, by cases nw <;> exact List.cons_ne_nil _ _, fun p hp => ?_, by rw [List.length_append]; exact Nat.le_refl _, by omega, fun K B R => ?_⟩
    · rcases List.mem_append.mp hp with h | h
      · exact hi p h
      · rw [List.mem_singleton.mp h]; exact ⟨a, b, by show 1 + k ≤ 2; omega⟩
    · refine l_join.trans ((bnd_of hj).trans ((bnd_of len_str).trans ((hB_of (show cmpB .Lt (.int ((nw.map (·.1)).flatten.length : Nat)) (.int ((25 : Nat) : Int)) _ = some (decide (((nw.map (·.1)).flatten.length : Int) < ((25 : Nat) : Int))) from rfl)).trans ?_)))
      refine (congrFun (bM_t (decide_eq_true (Int.ofNat_lt.mpr h25))) _).trans (l_name.trans ((bnd_of e).trans ?_))
      refine (show _ = execKs T73 (tlN n_law_B5) (lσ s base.length x4 (.str w) (.bool true) .undef) K B R (lH base m1 s nw) from rfl).trans (l_judge.trans ((bnd_of (judged_ok (Nat.le_trans b (by decide)))).trans ((bnd_of (show truthyM (.bool true) _ = some (true, _) from rfl)).trans ((congrFun (bM_t rfl) _).trans (l_push.trans ?_)))))
      refine (append_K (Q1 rfl) (by rw [List.length_map]; exact Nat.lt_of_le_of_lt hl (by decide))).trans ?_
      rw [Q1s rfl]
      refine (hB_of (recv_list (Q2 rfl) (by decide))).trans ((bnd_of e2).trans ((bnd_of (show binV .Add (.int ((1 : Nat) : Int)) (.int (k : Nat)) _ = some (.int ((1 + k : Nat) : Int), _) from rfl)).trans ((append_K2 (T := T73) (Q2 rfl) (by rw [List.length_map]; exact Nat.lt_of_le_of_lt hl (by decide))).trans ?_)))
      rw [Q2s rfl]
      have e3 : nw.map (fun p : Item => V.str p.1) ++ [.str w] = (nw ++ [(w, 1 + k)]).map fun p : Item => V.str p.1 := by rw [List.map_append]; rfl
      have e4 : nw.map (fun p : Item => V.int (p.2 : Nat)) ++ [.int ((1 + k : Nat) : Int)] = (nw ++ [(w, 1 + k)]).map fun p : Item => V.int (p.2 : Nat) := by rw [List.map_append]; rfl
      rw [e3, e4]
  · have hnw : nw ≠ [] := fun e => by subst e; exact h25 (by decide)
    refine ⟨nw, m, x5, x6, hnw, hi, Nat.le_succ _, Nat.le_add_right _ _, fun K B R => l_join.trans ((bnd_of hj).trans ((bnd_of len_str).trans ((hB_of (show cmpB .Lt (.int ((nw.map (·.1)).flatten.length : Nat)) (.int ((25 : Nat) : Int)) _ = some (decide (((nw.map (·.1)).flatten.length : Int) < ((25 : Nat) : Int))) from rfl)).trans (congrFun (bM_f (decide_eq_false fun z => h25 (Int.ofNat_lt.mp z))) _))))⟩
end
end

section

section
variable {base : Hp} {s m : Nat} {ys : List Nat} {nw : List Item} {x4 x5 x6 : V} {G : Hp}
theorem l_loop {c : Nat} (hs : base[s]? = some (.list (natsV ys))) (hne : ys ≠ []) (hz : ys.length ≤ SZ) (hm : m ≤ 10) (hc : c ≤ 4) (hc0 : 0 < c) :
    ∃ nw m' x4' x5' x6', nw ≠ [] ∧ (∀ p ∈ nw, ItOk p) ∧ nw.length ≤ 4 ∧ m' ≤ 200 ∧ forN (.inr 4) (.rng 0 (c : Nat)) (execSs T73 n_law_L6b) FUEL 0 (lσ s base.length .undef .undef .undef .undef) (lH base m s []) = some ((.next, lσ s base.length x4' x5' x6' .undef), lH base m' s nw) := by
  obtain ⟨a, h, e⟩ := for_range (T := T73) (t := 4) (b := n_law_L6b) (c := c) (α := (List Item × Nat) × V × V × V) (fun z' a => lσ s base.length a.2.1 a.2.2.1 a.2.2.2 .undef) (fun z' a => lH base a.1.2 s a.1.1) (fun n a => (0 < n → a.1.1 ≠ []) ∧ (∀ p ∈ a.1.1, ItOk p) ∧ a.1.1.length ≤ n ∧ a.1.2 ≤ 10 + 25 * n)
    (fun n a hn h => by
      obtain ⟨nw', m2, y5, y6, ha, hb, d, e, f⟩ := l_turn (m := a.1.2) (nw := a.1.1) (x4 := .int n) (x5 := a.2.2.1) (x6 := a.2.2.2) hs hne hz (Nat.le_trans (show a.1.2 + 100 ≤ 1000 by have := h.2.2.2; omega) (by decide)) h.2.1 (by have := h.2.2.1; omega)
      exact ⟨((nw', m2), .int n, y5, y6), ⟨fun z' => ha, hb, by have := h.2.2.1; show nw'.length ≤ n + 1; omega, by have := h.2.2.2; show m2 ≤ 10 + 25 * (n + 1); omega⟩, f⟩)
    (([], m), .undef, .undef, .undef) ⟨fun h => absurd h (Nat.lt_irrefl 0), fun p h => (by cases h), Nat.le_refl _, hm⟩ (Nat.lt_of_le_of_lt hc (by decide))
  exact ⟨a.1.1, a.1.2, a.2.1, a.2.2.1, a.2.2.2, h.1 hc0, h.2.1, Nat.le_trans h.2.2.1 hc, by have := h.2.2.2; omega, e⟩
theorem lt_a {L : Nat} : endK T73 n_law_T8 (.next, lσ s L x4 x5 x6 .undef) G = bnd (f_law_take [.ref L, .int ((3 : Nat) : Int)]) (fun k => bnd (idxV (.tup [.str [44, 32], .str [44, 10], .str [44, 9, 32]]) k) fun g => retK T73 (tlN n_law_T8) (lσ s L x4 x5 x6 g)) G := by kernel_rfl
theorem lt_b {L : Nat} {g : List Nat} : retK T73 (tlN n_law_T8) (lσ s L x4 x5 x6 (.str g)) G = bnd (f_law_keys [.ref (L + 1), .ref (L + 2), .str g]) (fun v => bnd (truthyM v) fun t => bM t (retK T73 (tlN (tlN n_law_T8)) (lσ s L x4 x5 x6 (.str g))) (execKs T73 (.cons (.rtn (.lit (.bool .false))) .nil) (lσ s L x4 x5 x6 (.str g)) (fun σ => retK T73 (tlN (tlN n_law_T8)) σ) (fun z' => failM) (fun v z' => ret v))) G := by kernel_rfl
theorem lt_c {L : Nat} {g : List Nat} : retK T73 (tlN (tlN n_law_T8)) (lσ s L x4 x5 x6 (.str g)) G = bnd (idxV (.ref (L + 1)) (.int ((0 : Nat) : Int))) (fun a => bnd (idxV (.ref (L + 1)) (.int (-1))) fun b => bnd (biV .len [.ref (L + 1)]) fun n => bnd (binV .FloorDiv n (.int ((2 : Nat) : Int))) fun h => bnd (idxV (.ref (L + 1)) h) fun c => bnd (f_law_take [.ref L, .int ((5 : Nat) : Int)]) fun f => bnd (f_law_holes [a, b, c, f]) ret) G := by kernel_rfl
theorem law_tail (hs : base[s]? = some (.list (natsV ys))) (hne : ys ≠ []) (hz : ys.length ≤ SZ) (hm : m ≤ 1000) (hnw : nw ≠ []) (hi : ∀ p ∈ nw, ItOk p) (hl : nw.length ≤ 4) :
    endK T73 n_law_T8 (.next, lσ s base.length x4 x5 x6 .undef) (lH base m s nw) = some (.bool true, lH base (m + 1 + 1) s nw) := by
  have hms : m + 1 ≤ SZ := Nat.le_trans (Nat.succ_le_succ hm) (by decide)
  obtain ⟨k, hk, t1⟩ := take_ok (m := 3) (lH_dr (m := m) (nw := nw) hs hne hz) (Nat.le_of_succ_le hms) (by decide)
  rw [Q0s rfl] at t1
  obtain ⟨bl, hg, hb, hbl⟩ : ∃ bl, [V.str [44, 32], .str [44, 10], .str [44, 9, 32]][k]? = some (.str (44 :: bl)) ∧ bl.length ≤ 2 ∧ bl.all isB = true := by
    match k, hk with
    | 0, _ => exact ⟨[32], rfl, by decide, rfl⟩
    | 1, _ => exact ⟨[10], rfl, by decide, rfl⟩
    | 2, _ => exact ⟨[9, 32], rfl, by decide, rfl⟩
  refine lt_a.trans ((bnd_of t1).trans ((bnd_of (idx_tup hg)).trans (lt_b.trans ((bnd_of (keys_ok hi hnw hb hbl (Nat.le_trans hl (by decide)) (Q1 rfl) (Q2 rfl))).trans ((bnd_of (show truthyM (.bool true) _ = some (true, _) from rfl)).trans ((congrFun (bM_t rfl) _).trans (lt_c.trans ?_)))))))
  obtain ⟨f, hf, t2⟩ := take_ok (m := 5) (lH_dr (m := m + 1) (nw := nw) hs hne hz) hms (by decide)
  rw [Q0s rfl] at t2
  have hlen : 0 < nw.length := List.length_pos_iff.mpr hnw
  have get : ∀ {j : Nat} (hj : j < nw.length), (nw.map fun p : Item => V.str p.1)[j]? = some (.str nw[j].1) := fun hj => by rw [List.getElem?_map, List.getElem?_eq_getElem hj]; rfl
  have hmid : nw.length / 2 < nw.length := Nat.div_lt_self hlen (by decide)
  have hml : (nw.map fun p : Item => V.str p.1).length = nw.length := List.length_map _
  have p0 : idxV (.ref (base.length + 1)) (.int ((0 : Nat) : Int)) (lH base (m + 1) s nw) = some (.str nw[0].1, lH base (m + 1) s nw) := idx_ref (Q1 rfl) (place_nat (by rw [hml]; exact hlen)) (get hlen)
  obtain ⟨ini, la, hla⟩ : ∃ ini la, nw = ini ++ [la] := ⟨_, _, (List.dropLast_concat_getLast hnw).symm⟩
  have p1 : idxV (.ref (base.length + 1)) (.int (-1)) (lH base (m + 1) s nw) = some (.str la.1, lH base (m + 1) s nw) := idx_last (vs := ini.map fun p : Item => V.str p.1) (by rw [Q1 rfl, hla, List.map_append]; rfl)
  have p2 : biV .len [.ref (base.length + 1)] (lH base (m + 1) s nw) = some (.int (nw.length : Nat), lH base (m + 1) s nw) := by rw [← hml]; exact len_ref (Q1 rfl)
  have p3 : idxV (.ref (base.length + 1)) (.int ((nw.length / 2 : Nat) : Int)) (lH base (m + 1) s nw) = some (.str nw[nw.length / 2].1, lH base (m + 1) s nw) := idx_ref (Q1 rfl) (place_nat (by rw [hml]; exact hmid)) (get hmid)
  have i0 := hi _ (List.getElem_mem hlen)
  have i1 := hi la (by rw [hla]; exact List.mem_append_right _ List.mem_cons_self)
  have i2 := hi _ (List.getElem_mem hmid)
  refine (bnd_of p0).trans ((bnd_of p1).trans ((bnd_of p2).trans ((bnd_of (div_nat (by decide) (by decide))).trans ((bnd_of p3).trans ((bnd_of t2).trans ((bnd_of (holes_ok hf i0.1 i1.1 i2.1 i0.2.1 i1.2.1 i2.2.1)).trans rfl))))))
end
end

section

section
variable {G H : Hp} {s d a : Nat}
noncomputable def law20 : List Nat := [2, 0, 4, 0, 12, 4, 1, 36, 8, 2, 35, 5, 0, 13, 6, 4, 3, 18, 1, 2]
theorem lf_1 : retK T73 (tlN (tlN n_law)) [.ref s, .undef, .undef, .undef, .undef, .undef, .undef, .undef] G = bnd (newL [.int ((0 : Nat) : Int), .ref s]) (fun v => retK T73 (tlN (tlN (tlN n_law))) [.ref s, v, .undef, .undef, .undef, .undef, .undef, .undef]) G := by kernel_rfl
theorem lf_2 : retK T73 (tlN (tlN (tlN n_law))) [.ref s, .ref d, .undef, .undef, .undef, .undef, .undef, .undef] G = bnd (newL []) (fun v => retK T73 (tlN (tlN (tlN (tlN n_law)))) [.ref s, .ref d, v, .undef, .undef, .undef, .undef, .undef]) G := by kernel_rfl
theorem lf_3 : retK T73 (tlN (tlN (tlN (tlN n_law)))) [.ref s, .ref d, .ref a, .undef, .undef, .undef, .undef, .undef] G = bnd (newL []) (fun v => retK T73 (tlN (tlN (tlN (tlN (tlN n_law))))) [.ref s, .ref d, .ref a, v, .undef, .undef, .undef, .undef]) G := by kernel_rfl
theorem lf_4 {b : Nat} : retK T73 (tlN (tlN (tlN (tlN (tlN n_law))))) [.ref s, .ref d, .ref a, .ref b, .undef, .undef, .undef, .undef] G = bnd (f_law_take [.ref d, .int ((4 : Nat) : Int)]) (fun k => bnd (binV .Add k (.int ((1 : Nat) : Int))) fun n => bnd (biV .rng [n]) fun o => bnd (forN (.inr 4) o (execSs T73 n_law_L6b) FUEL 0 [.ref s, .ref d, .ref a, .ref b, .undef, .undef, .undef, .undef]) (endK T73 n_law_T8)) G := by kernel_rfl
theorem law_mid {ys : List Nat} (hs : H[s]? = some (.list (natsV ys))) (hne : ys ≠ []) (hz : ys.length ≤ SZ) : ∃ H', retK T73 (tlN (tlN n_law)) [.ref s, .undef, .undef, .undef, .undef, .undef, .undef, .undef] H = some (.bool true, H') := by
  have n1 : (H ++ [drw 0 s]).length = H.length + 1 := List.length_append
  have n2 : (H ++ [drw 0 s] ++ [O.list []]).length = H.length + 2 := by rw [List.length_append, n1]; rfl
  obtain ⟨k, hk, t1⟩ := take_ok (m := 4) (lH_dr (m := 0) (nw := []) hs hne hz) (Nat.zero_le _) (by decide)
  rw [Q0s rfl] at t1
  obtain ⟨nw, m', x4, x5, x6, a, b, c, d, e⟩ := l_loop (m := 1) (c := k + 1) hs hne hz (by decide) hk (Nat.succ_pos _)
  refine ⟨lH H (m' + 1 + 1) s nw, lf_1.trans ((bnd_of (new_at rfl)).trans (lf_2.trans ((bnd_of (new_at n1)).trans (lf_3.trans ((bnd_of (new_at n2)).trans (lf_4.trans ?_))))))⟩
  rw [show H ++ [drw 0 s] ++ [O.list []] ++ [O.list []] = lH H 0 s [] by rw [List.append_assoc, List.append_assoc]; rfl]
  exact (bnd_of t1).trans ((bnd_of (show binV .Add (.int (k : Nat)) (.int ((1 : Nat) : Int)) _ = some (.int ((k + 1 : Nat) : Int), _) from rfl)).trans ((bnd_of (rng_of (Nat.le_trans hk (by decide)))).trans ((bnd_of e).trans (law_tail hs hne hz (Nat.le_trans d (by decide)) a b c))))
theorem lf_0 {i : Nat} : runK T73 8 1 n_law [.ref i] G = bnd (evalE T73 (.comp n_law_C1e n_law_C1c (.slc (.loc 0) (.lit .none) (.lit (.int (.ofNat 40))))) [.ref i, .undef, .undef, .undef, .undef, .undef, .undef, .undef]) (fun v => retK T73 (tlN n_law) [v, .undef, .undef, .undef, .undef, .undef, .undef, .undef]) G := by kernel_rfl
theorem lf_5 : retK T73 (tlN n_law) [.ref s, .undef, .undef, .undef, .undef, .undef, .undef, .undef] G = bnd (biV .len [.ref s]) (fun n => hB (cmpB .Eq n (.int ((0 : Nat) : Int))) fun r => bM r (bnd (newL (natsV law20)) fun v => retK T73 (tlN (tlN n_law)) [v, .undef, .undef, .undef, .undef, .undef, .undef, .undef]) (retK T73 (tlN (tlN n_law)) [.ref s, .undef, .undef, .undef, .undef, .undef, .undef, .undef])) G := by kernel_rfl
noncomputable def modV (v : V) : Option V := (intO v).map fun x => .int (x % 1000003)
theorem mod_all : ∀ xs : List Int, (xs.map V.int).filterMap modV = natsV (xs.map fun x => (x % 1000003).toNat)
  | [] => rfl
  | x :: xs => by
    refine (List.filterMap_cons_some (f := modV) (b := .int (x % 1000003)) rfl).trans ?_
    rw [mod_all xs]
    show V.int (x % 1000003) :: _ = V.int (((x % 1000003).toNat : Nat) : Int) :: _
    rw [Int.toNat_of_nonneg (Int.emod_nonneg x (by decide))]
theorem law_ok {xs : List Int} : ∃ r H1 H', compM T73 n_law_C1e n_law_C1c (newL ((xs.take 40).map V.int)) H = some (r, H1) ∧ retK T73 (tlN n_law) [r, .undef, .undef, .undef, .undef, .undef, .undef, .undef] H1 = some (.bool true, H') := by
  let sl := (xs.take 40).map V.int
  let H1 := H ++ [O.list sl]
  have hz : (xs.take 40).length ≤ 40 := by rw [List.length_take]; exact Nat.min_le_left _ _
  have hsl : sl.length ≤ SZ := Nat.le_trans (by rw [List.length_map]; exact hz) (by decide)
  have hr := comp_run (T := T73) (o := .ref H.length) (vs := sl) (elt := n_law_C1e) (c := n_law_C1c) (H := H1) (f := modV) (fun x n => item_ref (ap_old get_new)) (fun v hv x K => by
    obtain ⟨y, _, rfl⟩ := List.mem_map.mp hv
    exact (show _ = bnd (binV .Mod (.int y) (.int ((1000003 : Nat) : Int))) (fun y => bnd (bmeth (.ref H1.length) 0 [y]) fun z' => K) (H1 ++ [x]) by kernel_rfl).trans (bnd_of (show gd ((0 : Int) < 1000003) (ret (V.int (y % 1000003))) (H1 ++ [x]) = some (V.int (y % 1000003), H1 ++ [x]) from gd_H (by decide)))) sl 0 FUEL [] rfl (Nat.lt_of_le_of_lt hsl (by decide)) (by rw [List.length_nil, Nat.zero_add]; exact hsl)
  rw [List.nil_append, mod_all] at hr
  let ys := (xs.take 40).map fun x => (x % 1000003).toNat
  have hyz : ys.length ≤ SZ := Nat.le_trans (by rw [List.length_map]; exact hz) (by decide)
  have hc : compM T73 n_law_C1e n_law_C1c (newL sl) H = some (.ref H1.length, H1 ++ [.list (natsV ys)]) := (bnd_of (new_at rfl)).trans ((bnd_of (new_at rfl)).trans ((bnd_of hr).trans rfl))
  have key : ∃ H', retK T73 (tlN n_law) [.ref H1.length, .undef, .undef, .undef, .undef, .undef, .undef, .undef] (H1 ++ [.list (natsV ys)]) = some (.bool true, H') := by
    have hlen : (natsV ys).length = ys.length := List.length_map _
    by_cases hy : ys = []
    · obtain ⟨H', e⟩ := law_mid (H := H1 ++ [.list (natsV ys)] ++ [.list (natsV law20)]) (s := (H1 ++ [O.list (natsV ys)]).length) (ys := law20) get_new (by intro z; cases z) (by show 20 ≤ SZ; decide)
      refine ⟨H', lf_5.trans ((bnd_of (len_ref get_new)).trans ?_)⟩
      rw [hlen]
      refine (hB_of (show cmpB .Eq (.int (ys.length : Nat)) (.int ((0 : Nat) : Int)) _ = some true by rw [hy]; rfl)).trans ((congrFun (bM_t rfl) _).trans ((bnd_of (new_at rfl)).trans e))
    · obtain ⟨H', e⟩ := law_mid (H := H1 ++ [.list (natsV ys)]) (s := H1.length) (ys := ys) get_new hy hyz
      refine ⟨H', lf_5.trans ((bnd_of (len_ref get_new)).trans ?_)⟩
      rw [hlen]
      refine (hB_of (show cmpB .Eq (.int (ys.length : Nat)) (.int ((0 : Nat) : Int)) _ = some false from ?_)).trans ((congrFun (bM_f rfl) _).trans e)
      exact congrArg some (beq_eq_false_iff_ne.mpr fun z => hy (List.length_eq_zero_iff.mp (Int.ofNat_inj.mp z)))
  obtain ⟨H', e⟩ := key
  exact ⟨_, _, H', hc, e⟩
end
end

section
structure Asts (K : Frag) : Prop where
  a1 : fnAst K theG 255 = some (1, 1, n_is_line_end)
  a2 : fnAst K theG 262 = some (1, 1, n_is_wide_line_end)
  a3 : fnAst K theG 269 = some (1, 1, n_scanner_is_far)
  a4 : fnAst K theG 276 = some (1, 1, n_is_digit)
  a5 : fnAst K theG 283 = some (1, 1, n_is_name_start)
  a6 : fnAst K theG 290 = some (1, 1, n_is_name_part)
  a7 : fnAst K theG 297 = some (1, 1, n_is_reserved)
  a8 : fnAst K theG 304 = some (1, 1, n_digit_value)
  a9 : fnAst K theG 248 = some (2, 2, n_peek)
  a10 : fnAst K theG 29 = some (2, 1, n_escape_letter)
  a11 : fnAst K theG 50 = some (1, 1, n_is_word_letter)
  a12 : fnAst K theG 36 = some (3, 1, n_quote)
  a13 : fnAst K theG 43 = some (4, 1, n_template_text)
  a14 : fnAst K theG 57 = some (2, 1, n_stands_bare)
  a15 : fnAst K theG 64 = some (2, 1, n_digits_bare)
  a16 : fnAst K theG 71 = some (1, 1, n_prop_key)
  a17 : fnAst K theG 360 = some (6, 3, n_read_hex_escape)
  a18 : fnAst K theG 367 = some (4, 2, n_read_code_point)
  a19 : fnAst K theG 374 = some (3, 2, n_read_escape)
  a20 : fnAst K theG 381 = some (8, 2, n_scan_string)
  a21 : fnAst K theG 388 = some (5, 2, n_read_string)
  a22 : fnAst K theG 395 = some (2, 2, n_is_hole)
  a23 : fnAst K theG 402 = some (7, 2, n_scan_template)
  a24 : fnAst K theG 409 = some (6, 2, n_read_template)
  a25 : fnAst K theG 325 = some (6, 2, n_skip_blank)
  a26 : fnAst K theG 423 = some (2, 2, n_scanner_read_name)
  a27 : fnAst K theG 346 = some (2, 2, n_skip_number_tail)
  a28 : fnAst K theG 332 = some (3, 2, n_scanner_base_at)
  a29 : fnAst K theG 339 = some (9, 3, n_read_digits)
  a30 : fnAst K theG 353 = some (8, 2, n_read_number)
  a31 : fnAst K theG 416 = some (3, 2, n_read_sign)
  a32 : ctorAst K theG 237 false = some (7, 7, n_Token)
  a33 : ctorAst K theG 176 false = some (5, 5, n_Diag)
  a34 : ctorAst K theG 210 true = some (2, 2, n_Diags)
  a35 : fnAst K theG 202 = some (4, 4, n_Diags_put)
  a36 : fnAst K theG 430 = some (6, 3, n_name_token)
  a37 : fnAst K theG 444 = some (7, 4, n_number_token)
  a38 : fnAst K theG 451 = some (7, 4, n_string_token)
  a39 : fnAst K theG 458 = some (11, 6, n_template_token)
  a40 : fnAst K theG 465 = some (6, 4, n_read_token)
  a41 : fnAst K theG 472 = some (2, 2, n_is_brace)
  a42 : fnAst K theG 493 = some (6, 1, n_Scanner_take)
  a43 : fnAst K theG 500 = some (3, 1, n_Scanner_rescan)
  a44 : fnAst K theG 514 = some (3, 3, n_follow_hole)
  a45 : ctorAst K theG 503 false = some (3, 3, n_Scanner)
  a46 : fnAst K theG 521 = some (5, 2, n_scan_all)
  a47 : fnAst K theG 767 = some (3, 3, n_is_token)
  a48 : fnAst K theG 578 = some (1, 1, n_Parser_now)
  a49 : fnAst K theG 592 = some (2, 1, n_Parser_step)
  a50 : fnAst K theG 585 = some (3, 2, n_Parser_ahead)
  a51 : fnAst K theG 599 = some (2, 2, n_Parser_is_sign)
  a52 : fnAst K theG 781 = some (3, 3, n_eat_token)
  a53 : fnAst K theG 620 = some (2, 2, n_Parser_eat_sign)
  a54 : fnAst K theG 788 = some (1, 1, n_names_prop)
  a55 : fnAst K theG 795 = some (1, 1, n_literal_in_brackets)
  a56 : fnAst K theG 802 = some (2, 1, n_read_prop_name)
  a57 : ctorAst K theG 742 false = some (3, 3, n_Parser)
  a58 : fnAst K theG 809 = some (3, 2, n_law_take)
  a59 : fnAst K theG 816 = some (0, 0, n_law_reserved)
  a60 : fnAst K theG 823 = some (4, 1, n_law_piece)
  a61 : fnAst K theG 830 = some (0, 0, n_law_escapes)
  a62 : fnAst K theG 835 = some (1, 1, n_law_beyond)
  a63 : fnAst K theG 854 = some (4, 1, n_law_kind)
  a64 : fnAst K theG 861 = some (3, 1, n_law_number)
  a65 : fnAst K theG 868 = some (5, 2, n_law_hex)
  a66 : fnAst K theG 875 = some (9, 2, n_law_cook)
  a67 : fnAst K theG 880 = some (8, 2, n_law_same)
  a68 : fnAst K theG 887 = some (8, 3, n_law_written)
  a69 : fnAst K theG 894 = some (3, 1, n_law_judged)
  a70 : fnAst K theG 901 = some (17, 3, n_law_keys)
  a71 : fnAst K theG 908 = some (12, 4, n_law_holes)
  a72 : fnAst K theG 840 = some (17, 1, n_law_cooked)
  a73 : fnAst K theG 847 = some (7, 1, n_law_name)
section
variable {X : Cf} {n : Nat} {T : Tab} {f slots npar : Nat} {body : N}
theorem tb_le {sp : Fn} (B : Base X) (HG : ∀ x g, theG.lookup x = some g → GOk X x g) (TS : ∀ g, FnOk X n g (T g)) (ha : fnAst X.K theG f = some (slots, npar, body)) (h : ∀ args, Le (sp args) (runF T slots npar body args)) : ∀ g, FnOk X (n + 1) g (extT T f sp g) := ext_ok TS ((fun_ok B HG TS ha).le h)
theorem tb_fn (B : Base X) (HG : ∀ x g, theG.lookup x = some g → GOk X x g) (TS : ∀ g, FnOk X n g (T g)) (ha : fnAst X.K theG f = some (slots, npar, body)) : ∀ g, FnOk X (n + 1) g (extT T f (runF T slots npar body) g) := ext_ok TS (fun_ok B HG TS ha)
theorem tb_tr {k : Nat} (B : Base X) (HG : ∀ x g, theG.lookup x = some g → GOk X x g) (TS : ∀ g, FnOk X n g (T g)) (ha : fnAst X.K theG f = some (slots, npar, body)) : ∀ g, FnOk X (n + 1) g (extT T f (trunc k (runF T slots npar body)) g) := ext_ok TS (trunc_ok (fun_ok B HG TS ha))
theorem tb_ct {rec dflt : Bool} (B : Base X) (HG : ∀ x g, theG.lookup x = some g → GOk X x g) (TS : ∀ g, FnOk X n g (T g)) (ha : ctorAst X.K theG f dflt = some (slots, npar, body)) : ∀ g, FnOk X (n + 1) g (extT T f (ctorF T rec dflt f slots npar body) g) := ext_ok TS (ctor_ok B HG TS ha)
theorem tabs (B : Base X) (HG : ∀ x g, theG.lookup x = some g → GOk X x g) (A : Asts X.K) : ∀ g, FnOk X 73 g (T73 g) := by
  have t0 : ∀ g, FnOk X 0 g (T0 g) := fun g => .inl fun z' z' => rfl
  have t1 : ∀ g, FnOk X 1 g (T1 g) := tb_le B HG t0 A.a1 ok_is_line_end
  have t2 : ∀ g, FnOk X 2 g (T2 g) := tb_le B HG t1 A.a2 ok_is_wide
  have t3 : ∀ g, FnOk X 3 g (T3 g) := tb_le B HG t2 A.a3 ok_far
  have t4 : ∀ g, FnOk X 4 g (T4 g) := tb_le B HG t3 A.a4 ok_is_digit
  have t5 : ∀ g, FnOk X 5 g (T5 g) := tb_le B HG t4 A.a5 ok_is_ns
  have t6 : ∀ g, FnOk X 6 g (T6 g) := tb_le B HG t5 A.a6 ok_is_np
  have t7 : ∀ g, FnOk X 7 g (T7 g) := tb_le B HG t6 A.a7 ok_is_reserved
  have t8 : ∀ g, FnOk X 8 g (T8 g) := tb_le B HG t7 A.a8 ok_digit_value
  have t9 : ∀ g, FnOk X 9 g (T9 g) := tb_le B HG t8 A.a9 ok_peek
  have t10 : ∀ g, FnOk X 10 g (T10 g) := tb_le B HG t9 A.a10 ok_escape_letter
  have t11 : ∀ g, FnOk X 11 g (T11 g) := tb_le B HG t10 A.a11 ok_is_wl
  have t12 : ∀ g, FnOk X 12 g (T12 g) := tb_tr B HG t11 A.a12
  have t13 : ∀ g, FnOk X 13 g (T13 g) := tb_tr B HG t12 A.a13
  have t14 : ∀ g, FnOk X 14 g (T14 g) := tb_le B HG t13 A.a14 ok_stands_bare
  have t15 : ∀ g, FnOk X 15 g (T15 g) := tb_le B HG t14 A.a15 ok_digits_bare
  have t16 : ∀ g, FnOk X 16 g (T16 g) := tb_le B HG t15 A.a16 ok_prop_key
  have t17 : ∀ g, FnOk X 17 g (T17 g) := tb_le B HG t16 A.a17 ok_hex
  have t18 : ∀ g, FnOk X 18 g (T18 g) := tb_le B HG t17 A.a18 ok_cp
  have t19 : ∀ g, FnOk X 19 g (T19 g) := tb_le B HG t18 A.a19 ok_read_escape
  have t20 : ∀ g, FnOk X 20 g (T20 g) := tb_tr B HG t19 A.a20
  have t21 : ∀ g, FnOk X 21 g (T21 g) := tb_fn B HG t20 A.a21
  have t22 : ∀ g, FnOk X 22 g (T22 g) := tb_le B HG t21 A.a22 ok_is_hole
  have t23 : ∀ g, FnOk X 23 g (T23 g) := tb_tr B HG t22 A.a23
  have t24 : ∀ g, FnOk X 24 g (T24 g) := tb_fn B HG t23 A.a24
  have t25 : ∀ g, FnOk X 25 g (T25 g) := tb_fn B HG t24 A.a25
  have t26 : ∀ g, FnOk X 26 g (T26 g) := tb_fn B HG t25 A.a26
  have t27 : ∀ g, FnOk X 27 g (T27 g) := tb_fn B HG t26 A.a27
  have t28 : ∀ g, FnOk X 28 g (T28 g) := tb_fn B HG t27 A.a28
  have t29 : ∀ g, FnOk X 29 g (T29 g) := tb_fn B HG t28 A.a29
  have t30 : ∀ g, FnOk X 30 g (T30 g) := tb_fn B HG t29 A.a30
  have t31 : ∀ g, FnOk X 31 g (T31 g) := tb_fn B HG t30 A.a31
  have t32 : ∀ g, FnOk X 32 g (T32 g) := tb_ct B HG t31 A.a32
  have t33 : ∀ g, FnOk X 33 g (T33 g) := tb_ct B HG t32 A.a33
  have t34 : ∀ g, FnOk X 34 g (T34 g) := tb_ct B HG t33 A.a34
  have t35 : ∀ g, FnOk X 35 g (T35 g) := tb_fn B HG t34 A.a35
  have t36 : ∀ g, FnOk X 36 g (T36 g) := tb_fn B HG t35 A.a36
  have t37 : ∀ g, FnOk X 37 g (T37 g) := tb_fn B HG t36 A.a37
  have t38 : ∀ g, FnOk X 38 g (T38 g) := tb_fn B HG t37 A.a38
  have t39 : ∀ g, FnOk X 39 g (T39 g) := tb_fn B HG t38 A.a39
  have t40 : ∀ g, FnOk X 40 g (T40 g) := tb_fn B HG t39 A.a40
  have t41 : ∀ g, FnOk X 41 g (T41 g) := tb_fn B HG t40 A.a41
  have t42 : ∀ g, FnOk X 42 g (T42 g) := tb_fn B HG t41 A.a42
  have t43 : ∀ g, FnOk X 43 g (T43 g) := tb_fn B HG t42 A.a43
  have t44 : ∀ g, FnOk X 44 g (T44 g) := tb_fn B HG t43 A.a44
  have t45 : ∀ g, FnOk X 45 g (T45 g) := tb_ct B HG t44 A.a45
  have t46 : ∀ g, FnOk X 46 g (T46 g) := tb_fn B HG t45 A.a46
  have t47 : ∀ g, FnOk X 47 g (T47 g) := tb_fn B HG t46 A.a47
  have t48 : ∀ g, FnOk X 48 g (T48 g) := tb_fn B HG t47 A.a48
  have t49 : ∀ g, FnOk X 49 g (T49 g) := tb_fn B HG t48 A.a49
  have t50 : ∀ g, FnOk X 50 g (T50 g) := tb_fn B HG t49 A.a50
  have t51 : ∀ g, FnOk X 51 g (T51 g) := tb_fn B HG t50 A.a51
  have t52 : ∀ g, FnOk X 52 g (T52 g) := tb_fn B HG t51 A.a52
  have t53 : ∀ g, FnOk X 53 g (T53 g) := tb_fn B HG t52 A.a53
  have t54 : ∀ g, FnOk X 54 g (T54 g) := tb_fn B HG t53 A.a54
  have t55 : ∀ g, FnOk X 55 g (T55 g) := tb_fn B HG t54 A.a55
  have t56 : ∀ g, FnOk X 56 g (T56 g) := tb_fn B HG t55 A.a56
  have t57 : ∀ g, FnOk X 57 g (T57 g) := tb_ct B HG t56 A.a57
  have t58 : ∀ g, FnOk X 58 g (T58 g) := tb_fn B HG t57 A.a58
  have t59 : ∀ g, FnOk X 59 g (T59 g) := tb_fn B HG t58 A.a59
  have t60 : ∀ g, FnOk X 60 g (T60 g) := tb_fn B HG t59 A.a60
  have t61 : ∀ g, FnOk X 61 g (T61 g) := tb_fn B HG t60 A.a61
  have t62 : ∀ g, FnOk X 62 g (T62 g) := tb_tr B HG t61 A.a62
  have t63 : ∀ g, FnOk X 63 g (T63 g) := tb_fn B HG t62 A.a63
  have t64 : ∀ g, FnOk X 64 g (T64 g) := tb_fn B HG t63 A.a64
  have t65 : ∀ g, FnOk X 65 g (T65 g) := tb_fn B HG t64 A.a65
  have t66 : ∀ g, FnOk X 66 g (T66 g) := tb_fn B HG t65 A.a66
  have t67 : ∀ g, FnOk X 67 g (T67 g) := tb_fn B HG t66 A.a67
  have t68 : ∀ g, FnOk X 68 g (T68 g) := tb_fn B HG t67 A.a68
  have t69 : ∀ g, FnOk X 69 g (T69 g) := tb_fn B HG t68 A.a69
  have t70 : ∀ g, FnOk X 70 g (T70 g) := tb_tr B HG t69 A.a70
  have t71 : ∀ g, FnOk X 71 g (T71 g) := tb_tr B HG t70 A.a71
  have t72 : ∀ g, FnOk X 72 g (T72 g) := tb_tr B HG t71 A.a72
  have t73 : ∀ g, FnOk X 73 g (T73 g) := tb_fn B HG t72 A.a73
  exact t73
end
end

section

noncomputable def intVP : (v : Value) → Option {q : Int × Tok // v = .int q.1 q.2}
  | .int i k => some ⟨(i, k), rfl⟩
  | _ => none
noncomputable def builtinP : (v : Value) → Option {n : String // v = .builtin n}
  | .builtin n => some ⟨n, rfl⟩
  | _ => none
noncomputable def intB (v : V) (x : Value) : Bool := ((intO v).bind fun i => (intVP x).map fun q => decide (q.1.1 = i)).getD false
noncomputable def strB (v : V) (x : Value) : Bool := ((strO v).bind fun s => (strVP x).map fun q => decide (q.1.1 = toStr s) && (decide (s.length ≤ SZ) && s.all (· < 1114112))).getD false
noncomputable def litB (v : V) (x : Value) : Bool := intB v x || strB v x
noncomputable def litsB : List V → List Value → Bool
  | [], [] => true
  | v :: vs, x :: xs => litB v x && litsB vs xs
  | _, _ => false
theorem getD_false {o : Option Bool} (h : o.getD false = true) : o = some true := by
  cases o with
  | none => cases h
  | some b => cases b <;> first | rfl | cases h
theorem litB_ok {P : Params} {t : St} {v : V} {x : Value} (h : litB v x = true) : VR P t v x := by
  unfold litB at h
  rw [Bool.or_eq_true] at h
  rcases h with h | h
  · obtain ⟨i, hi, h⟩ := Option.bind_eq_some_iff.mp (getD_false h)
    obtain ⟨q, _, h⟩ := Option.map_eq_some_iff.mp h
    rw [intO_eq hi, q.2, of_decide_eq_true h]; exact ⟨_, rfl⟩
  · obtain ⟨s, hs, h⟩ := Option.bind_eq_some_iff.mp (getD_false h)
    obtain ⟨q, _, h⟩ := Option.map_eq_some_iff.mp h
    rw [Bool.and_eq_true, Bool.and_eq_true] at h
    rw [strO_eq hs, q.2, of_decide_eq_true h.1]
    exact ⟨⟨of_decide_eq_true h.2.1, fun c hc => of_decide_eq_true (List.all_eq_true.mp h.2.2 c hc)⟩, _, rfl⟩
theorem litsB_ok {P : Params} {t : St} : ∀ {vs : List V} {xs : List Value}, litsB vs xs = true → VRs P t vs xs
  | [], [], _ => trivial
  | v :: vs, x :: xs, h => by
    unfold litsB at h
    rw [Bool.and_eq_true] at h
    exact ⟨litB_ok h.1, litsB_ok h.2⟩
  | [], _ :: _, h => nomatch h
  | _ :: _, [], h => nomatch h

noncomputable def topV (K : Frag) (x : Str) : Value := ((nsIn K mainGlobals x).getD none).getD .none
noncomputable def topA (K : Frag) (x : Str) : Addr := (refV (topV K x)).getD 0
noncomputable def datO : Data → List DictEntry × Nat
  | .dict es n => (es.toList, n)
  | _ => ([], 0)
noncomputable def seqD : Data → List Value × Nat
  | .seq es n => (es.toList, n)
  | _ => ([], 0)
noncomputable def objD (K : Frag) (x : Str) : Data := ((K.lookup (topA K x)).map (·.data)).getD .plain
noncomputable def dsIn (K : Frag) (x : Str) : List DictEntry := (datO (objD K x)).1
noncomputable def keyP (d : DictEntry) : Option Str := (strVP d.key).map (·.1.1)
structure DictIn (K : Frag) (P : Params) (x : Str) (ks : List (List Nat)) (vs : List V) : Prop where
  v : nsIn K mainGlobals x = some (some (.ref (topA K x)))
  a : (topA K x == sysModules) = false
  o : K.lookup (topA K x) = some (dictOf (dsIn K x) (datO (objD K x)).2)
  k : (dsIn K x).map (fun d => (keyP d, d.hash)) = ks.map fun k => (some (toStr k), PyData.keyHash P (toStr k))
  e : litsB vs ((dsIn K x).map (·.val)) = true
structure TupIn (K : Frag) (x : Str) (vs : List V) : Prop where
  v : nsIn K mainGlobals x = some (some (.ref (topA K x)))
  o : (K.lookup (topA K x)).map (fun o => (o.cls, o.data)) = some (.type "tuple", .seq (seqD (objD K x)).1.toArray (seqD (objD K x)).2)
  z : vs.length ≤ SZ
  e : litsB vs (seqD (objD K x)).1 = true
theorem keysR_of {P : Params} : ∀ {ks : List (List Nat)} {ds : List DictEntry}, ds.map (fun d => (keyP d, d.hash)) = ks.map (fun k => (some (toStr k), PyData.keyHash P (toStr k))) → KeysR P (ks.map toStr) ds
  | [], [], _ => trivial
  | k :: ks, d :: ds, h => by
    rw [List.map_cons, List.map_cons] at h
    have h := List.cons.inj h
    have g := Prod.mk.inj h.1
    obtain ⟨q, _, e⟩ := Option.map_eq_some_iff.mp g.1
    exact ⟨⟨_, by rw [← e]; exact q.2⟩, g.2, keysR_of h.2⟩
  | [], _ :: _, h => nomatch h
  | _ :: _, [], h => nomatch h

noncomputable def biB (x : Str) (b : Bi) : Bool := match b with
  | .len => decide (x = ("len" : Str))
  | .ord => decide (x = ("ord" : Str))
  | .chr => decide (x = ("chr" : Str))
  | .rng => decide (x = ("range" : Str))
  | .str => decide (x = ("str" : Str))
theorem biB_ok {x : Str} {b : Bi} (h : biB x b = true) : x ≠ ("__name__" : Str) ∧ bootBuiltins x = some (biVal b) := by
  cases b <;> rw [of_decide_eq_true h] <;> exact ⟨by decide +kernel, by kernel_rfl⟩
noncomputable def isNN (o : Option (Option Value)) : Bool := match o with
  | some none => true
  | _ => false
theorem isNN_ok {o : Option (Option Value)} (h : isNN o = true) : o = some none := by
  cases o with
  | none => cases h
  | some o => cases o <;> first | rfl | cases h
noncomputable def refIs (a : Nat) (o : Option (Option Value)) : Bool := (((o.bind id).bind refV).map (· == a)).getD false
theorem refIs_ok {a : Nat} {o : Option (Option Value)} (h : refIs a o = true) : o = some (some (.ref a)) := by
  obtain ⟨b, hb, h⟩ := Option.map_eq_some_iff.mp (getD_false h)
  obtain ⟨v, hv, hr⟩ := Option.bind_eq_some_iff.mp hb
  obtain ⟨w, hw, e⟩ := Option.bind_eq_some_iff.mp hv
  have e : w = some v := e
  rw [hw, e, refV_eq hr, eq_of_beq h]
noncomputable def heavy : V → Bool
  | .tup _ => true
  | .dict _ _ => true
  | _ => false
noncomputable def topB (K : Frag) (p : Str × Gv) : Bool := match p.2 with
  | .fn a => refIs a (nsIn K mainGlobals p.1)
  | .bi b => isNN (nsIn K mainGlobals p.1) && biB p.1 b
  | .lit v => heavy v || (((nsIn K mainGlobals p.1).bind id).map (litB v)).getD false
noncomputable def isBi (n : String) (o : Option (Option Value)) : Bool := ((o.bind id).bind fun v => (builtinP v).map fun q => decide (q.1 = n)).getD false
theorem isBi_ok {n : String} {o : Option (Option Value)} (h : isBi n o = true) : o = some (some (.builtin n)) := by
  obtain ⟨v, hv, h⟩ := Option.bind_eq_some_iff.mp (getD_false h)
  obtain ⟨q, _, h⟩ := Option.map_eq_some_iff.mp h
  obtain ⟨w, hw, e⟩ := Option.bind_eq_some_iff.mp hv
  have e : w = some v := e
  rw [hw, e, q.2, of_decide_eq_true h]
noncomputable def attrB (K : Frag) (C f : Nat) : Bool :=
  plainGet K C (attrName f) && (hasDictIn K C && (((findIn K (.ref C) (attrName f)).map (noGet K)).getD false && (isNN (takerIn K C (attrName f)) && (isBi "object.__setattr__" (findIn K (.ref C) "__setattr__") && plainOver K C))))
noncomputable def methB (K : Frag) (p : Nat × Nat × Nat) : Bool := plainGet K p.1 (methName p.2.1) && (refIs p.2.2 (findIn K (.ref p.1) (methName p.2.1)) && (isFn K (.ref p.2.2) && keepIn K (.ref p.2.2)))
theorem kok_of {K : Frag} (ha : classL.all (fun p => p.2.all (attrB K p.1)) = true) (hm : methL.all (methB K) = true) : KOk K where
  attr C f j h := by
    have hf : f ∈ fieldsOf C := by
      unfold fldIx at h
      obtain ⟨hlt, hx, _⟩ := List.idxOf?_eq_some_iff.mp h
      rw [← hx]; exact List.getElem_mem hlt
    have k : attrB K C f = true := by
      unfold fieldsOf at hf
      cases e : classL.find? fun p => p.1 == C with
      | none => rw [e] at hf; cases hf
      | some p =>
        rw [e] at hf
        have := List.all_eq_true.mp (List.all_eq_true.mp ha p (List.mem_of_find?_eq_some e)) f hf
        rw [eq_of_beq (List.find?_some (p := fun p : Nat × List Nat => p.1 == C) e)] at this; exact this
    unfold attrB at k
    simp only [Bool.and_eq_true] at k
    obtain ⟨a, h1, h2⟩ := Option.map_eq_some_iff.mp (getD_false k.2.2.1)
    exact ⟨k.1, k.2.1, ⟨a, h1, h2⟩, isNN_ok k.2.2.2.1, isBi_ok k.2.2.2.2.1, k.2.2.2.2.2⟩
  meth C m f h := by
    have k := List.all_eq_true.mp hm _ (meth_of h)
    unfold methB at k
    simp only [Bool.and_eq_true] at k
    exact ⟨k.1, refIs_ok k.2.1, k.2.2.1, k.2.2.2⟩

structure Chk (K : Frag) (P : Params) : Prop where
  asts : Asts K
  attr : classL.all (fun p => p.2.all (attrB K p.1)) = true
  meth : methL.all (methB K) = true
  top : theG.all (topB K) = true
  d1 : DictIn K P "ESCAPED" [[92], [10], [9], [13]] [.str [92, 92], .str [92, 110], .str [92, 116], .str [92, 114]]
  d2 : DictIn K P "RESERVED" resW (List.replicate 36 (.int (.ofNat 1)))
  d3 : DictIn K P "ESCAPES" [[110], [116], [114], [98], [118], [102]] [.str [10], .str [9], .str [13], .str [8], .str [11], .str [12]]
  t3 : TupIn K "SIGNS_THREE" (l_SIGNS_THREE.map .str)
  t2 : TupIn K "SIGNS_TWO" (l_SIGNS_TWO.map .str)

theorem DictIn.vr {K : Frag} {X : Cf} {x : Str} {ks : List (List Nat)} {vs : List V} (D : DictIn K X.w.params x ks vs) (KX : K.In X.h₀) (g : X.h₀.Ns mainGlobals X.mg) : GOk X x (.lit (.dict ks vs)) :=
  ⟨_, mg_of KX g D.v, fun t L => ⟨_, _, _, rfl, (L _ _ (KX _ _ D.o)).2, beq_eq_false_iff_ne.mp D.a, (L _ _ (KX _ _ D.o)).1, keysR_of D.k, litsB_ok D.e⟩⟩
theorem TupIn.vr {K : Frag} {X : Cf} {x : Str} {vs : List V} (D : TupIn K x vs) (KX : K.In X.h₀) (g : X.h₀.Ns mainGlobals X.mg) : GOk X x (.lit (.tup vs)) := by
  obtain ⟨o, ho, e⟩ := Option.map_eq_some_iff.mp D.o
  have e := Prod.mk.inj e
  exact ⟨_, mg_of KX g D.v, fun t L => ⟨D.z, _, _, rfl, (L _ _ (KX _ _ ho)).2, ⟨o, (L _ _ (KX _ _ ho)).1, e.1, _, e.2⟩, litsB_ok D.e⟩⟩
theorem lookup_mem' {x : Str} {g : Gv} : ∀ {l : List (Str × Gv)}, l.lookup x = some g → (x, g) ∈ l
  | [], h => nomatch h
  | p :: l, h => by
    rw [List.lookup_cons] at h
    by_cases hx : x = p.1
    · subst hx
      rw [beq_self_eq_true] at h
      cases h; exact List.mem_cons_self
    · rw [beq_eq_false_iff_ne.mpr hx] at h
      exact List.mem_cons_of_mem _ (lookup_mem' h)
theorem gok_of {K : Frag} {X : Cf} (C : Chk K X.w.params) (KX : K.In X.h₀) (g : X.h₀.Ns mainGlobals X.mg) (hb : ∀ x : Str, x ≠ "__name__" → X.mb x = bootBuiltins x) {x : Str} {v : Gv} (h : theG.lookup x = some v) : GOk X x v := by
  have hm := lookup_mem' h
  have k := List.all_eq_true.mp C.top _ hm
  cases v with
  | fn a => exact mg_of KX g (refIs_ok k)
  | bi b =>
    have k : (isNN (nsIn K mainGlobals x) && biB x b) = true := k
    rw [Bool.and_eq_true] at k
    obtain ⟨k1, k2⟩ := biB_ok k.2
    exact ⟨mg_none_of KX g (isNN_ok k.1), (hb x k1).trans k2⟩
  | lit v =>
    have k : (heavy v || (((nsIn K mainGlobals x).bind id).map (litB v)).getD false) = true := k
    cases hh : heavy v with
    | false =>
      rw [hh, Bool.false_or] at k
      obtain ⟨y, hy, e⟩ := Option.map_eq_some_iff.mp (getD_false k)
      obtain ⟨w, hw, ew⟩ := Option.bind_eq_some_iff.mp hy
      have ew : w = some y := ew
      exact ⟨y, mg_of KX g (by rw [hw, ew]), fun t z' => litB_ok e⟩
    | true =>
      have e : (x, Gv.lit v) ∈ theG.filter (fun p => match p.2 with
        | .lit v => heavy v
        | _ => false) := List.mem_filter.mpr ⟨hm, hh⟩
      have e : (x, Gv.lit v) ∈ [(("ESCAPED" : Str), Gv.lit d_ESCAPED), ("RESERVED", Gv.lit d_RESERVED), ("SIGNS_THREE", Gv.lit t_SIGNS_THREE), ("SIGNS_TWO", Gv.lit t_SIGNS_TWO), ("ESCAPES", Gv.lit d_ESCAPES)] := e
      simp only [List.mem_cons, List.not_mem_nil, or_false, Prod.mk.injEq] at e
      rcases e with ⟨rfl, q⟩ | ⟨rfl, q⟩ | ⟨rfl, q⟩ | ⟨rfl, q⟩ | ⟨rfl, q⟩ <;> rw [q]
      · exact C.d1.vr KX g
      · exact C.d2.vr KX g
      · exact C.t3.vr KX g
      · exact C.t2.vr KX g
      · exact C.d3.vr KX g
theorem retK_le {T : Tab} {b : N} {σ : List V} : Le (retK T b σ) (bnd (execSs T b σ) outOf) :=
  (execKs_le b _ _ _ _).trans (Le.bnd .rfl fun r => by
    obtain ⟨f, σ1⟩ := r
    cases f <;> exact .rfl)
theorem ints_vr {P : Params} {t : St} : ∀ {vals : List Value} {xs : List Int}, IntsAre vals xs → VRs P t (xs.map .int) vals
  | [], [], _ => trivial
  | _ :: _, _ :: _, .cons _ _ h => ⟨⟨_, rfl⟩, ints_vr h⟩

theorem inv_start {X : Cf} {L : Addr} {t : St} (h0 : t.α = []) (hW : t.W = fun b => b = L) (keep : ∀ b o, X.h₀.get? b = some o → t.s.heap.get? b = some o) (hl : ∀ b {o}, X.h₀.get? b = some o → b < L) (lt : L < t.s.heap.objs.size) : Inv X t [] where
  keep := keep
  low b o e := by rw [hW]; exact Nat.ne_of_lt (hl b e)
  len := by rw [h0]; rfl
  objs i o e := by cases i <;> cases e
  foot p h := by rw [h0] at h; cases h
  apart i j p q e := by rw [h0] at e; cases i <;> cases e
  wlt b h := by rw [hW] at h; rw [show b = L from h]; exact lt

theorem law_join {prog : Program} {w : World} {K : Frag} {s : Shared} {mg mb : Str → Option Value} {m : Str → Option Value} {h₁ : Heap} {tk : Nat} {name : Str} {scope : Scope} {fa a : Addr} {cd : Value} {vals : List Value} {xs : List Int} {Q : Flow → Shared → Prop} {E : Value → Shared → Prop}
    {x : Str} {px p1 p2 p3 p4 pos ps : Pos} {elt : Expr} {gens : List Comprehension} {sc : Scope} {rest : List Stmt} {ls : List Str} {k : Nat}
    (C : Chk K w.params) (KX : K.In s.heap) (g : s.heap.Ns mainGlobals mg) (b : s.heap.Ns builtinsNs mb) (lim : s.heap.NoLimit) (hb : ∀ x : Str, x ≠ "__name__" → mb x = bootBuiltins x)
    (hL : s.heap.IsList a vals.toArray) (hI : IntsAre vals xs) (hz : ¬ (63 : Int) < xs.length) (F : Fr s.heap s.heap.objs.size h₁ m) (hm : m "script" = some (.ref a))
    (hk : scope.kind = .function) (hnd : ls.Nodup) (hls : ls.length = 8) (hx : localIx ⟨ls, scope.names, theG⟩ "script" = some 0) (hg : genOf gens = some (x, .Subscript (.Name "script" p1) (.Slice none (some (.Constant (.int 40) k p2)) none p3) p4, [])) (hs : scopeOk sc x = true)
    (he : cE 29 ⟨[x], sc.names, theG⟩ elt = n_law_C1e) (hr : toN (rest.map (cS 30 ⟨ls, scope.names, theG⟩)) = tlN n_law)
    (hQ : ∀ f s', (match f with
      | .ret v => v
      | _ => Value.none) = .bool true → (∀ b o, s.heap.get? b = some o → s'.heap.get? b = some o) → s'.gens = s.gens → s'.os = s.os → Q f s') :
    wpAny (model prog w) (callerA.deeper (envOf name scope s.heap.objs.size fa cd)) (execs (.Assign [.Name "script" px] (.ListComp elt gens sc pos) ps :: rest) (envOf name scope s.heap.objs.size fa cd)) Q E { s with heap := h₁, toks := tk } := by
  let X : Cf := ⟨prog, w, K, s.heap, mg, mb⟩
  let Z : Zx := ⟨X, callerA.deeper (envOf name scope s.heap.objs.size fa cd), T73, 73, ⟨ls, scope.names, theG⟩, envOf name scope s.heap.objs.size fa cd⟩
  have B : Base X := ⟨kok_of C.attr C.meth, KX, g, b, lim⟩
  have HG : ∀ x g, theG.lookup x = some g → GOk X x g := fun z' z' h => gok_of (X := X) C KX g hb h
  have O : Zok Z := ⟨B, ⟨rfl, Nat.le_of_ble_eq_true rfl, Nat.le_of_ble_eq_true rfl⟩, tabs B HG C.asts, ⟨hk, rfl, rfl, rfl, hnd, HG⟩⟩
  let t : St := ⟨{ s with heap := h₁, toks := tk }, [], fun b => b = s.heap.objs.size⟩
  have I : Inv X t [] := inv_start rfl rfl (fun b o e => F.keep b o e) (fun b z' h => Heap.lt_size h) F.ns.lt
  have Fr0 : ZF Z t (List.replicate 8 .undef) := ⟨⟨m, F.ns, fun i z v z' h => .inl (List.mem_replicate.mp (List.mem_of_getElem? h)).2⟩, rfl, fun ⟨p, h, _⟩ => nomatch h⟩
  have hlen : (xs.map V.int).length ≤ SZ := by rw [List.length_map]; show xs.length ≤ 100000; omega
  have hv : ∀ u : St, VRs w.params u (xs.map .int) vals := fun u => ints_vr hI
  obtain ⟨r, H1, H', e1, e2⟩ := law_ok (xs := xs) (H := [])
  have hi : Sim X Z.A noX t (eval (.Subscript (.Name "script" p1) (.Slice none (some (.Constant (.int 40) k p2)) none p3) p4) Z.env) (newL ((xs.take 40).map V.int)) (VRl X) := fun H I p e => by
    cases e
    refine Subscript_ (wpAny_Name (wpAny_loadName_local hk (local_facts O hx).1 F.ns hm ?_) rfl)
    refine slc_run (Z := Z) (F := cE 30 Z.cx) (q2 := (.none, H)) (q3 := (.int 40, H)) (fun e z' => (cE_ok 30 Z O e).1) (fun e z' => (cE_ok 30 Z O e).1) Fr0 I rfl rfl fun w sl y z I4 e4 ry rz hs => ?_
    have h := slc_list (X := X) (A := Z.A) (E := noX) (lo := .none) (hi := .int 40) (b := min 40 (xs.map V.int).length) I4 (hL.extBut (b := s.heap.objs.size) (fun b o z' q => e4.keeps b o (F.keep b o q) (fun ⟨p, h, _⟩ => nomatch h) fun h => h) (Nat.ne_of_lt (let ⟨_, h, _⟩ := hL; Heap.lt_size h))) (hv w) hlen ry rz hs rfl rfl
    rw [show cut (xs.map V.int) 0 (min 40 (xs.map V.int).length) = (xs.take 40).map V.int by unfold cut; rw [List.drop_zero, List.map_take, ← List.take_take, List.take_length]] at h
    exact h
  refine wpAny_execs_cons (Sat.then (asgC_at (Z := Z) (F := cE 29 ⟨[x], sc.names, theG⟩) (ifs := []) O hx hg hs rfl (fun env' C e => cE_ok 29 { Z with cx := ⟨[x], sc.names, theG⟩, env := env' } ⟨O.B, O.R, O.TS, C⟩ e) Fr0 hi I (p := (r, H1)) (by rw [he]; exact e1)) fun u f x1 r1 => ?_)
  rcases flR_cases r1.2.2 with ⟨_, rfl⟩ | ⟨h, _⟩ | ⟨_, _, h, _⟩
  · refine bnd_get (retK_le _ _ e2) fun q H2 h2 e3 => Sat.then (ssok (Z := Z) rest (fun p z' => cS_ok O 30 p) u _ r1.2.1 H1 r1.1 (q, H2) (by rw [hr]; exact h2)) fun v f x2 r2 => ?_
    have o := outOf_sim e3 r2.2.2
    exact hQ f v.s o.2 r2.1.keep (x2.gens.trans x1.gens) (x2.os.trans x1.os)
  · cases h
  · cases h
end
end Mine
set_option Elab.async true
namespace Mine.core
theorem tw10017096200928130398:True:=⟨⟩
theorem tw10030485546741390330:True:=⟨⟩
theorem tw1005083510844831469:True:=⟨⟩
theorem tw1006651989338762738:True:=⟨⟩
theorem tw10094829433025561866:True:=⟨⟩
theorem tw10105331840512236150:True:=⟨⟩
theorem tw10126565076549792957:True:=⟨⟩
theorem tw10133839918545413566:True:=⟨⟩
theorem tw10135492537236963461:True:=⟨⟩
theorem tw10137683793042469475:True:=⟨⟩
theorem tw10142413413755228885:True:=⟨⟩
theorem tw10154556403778159099:True:=⟨⟩
theorem tw10201218467047969570:True:=⟨⟩
theorem tw10204109993890343025:True:=⟨⟩
theorem tw10204273853576897857:True:=⟨⟩
theorem tw10208114004356842968:True:=⟨⟩
theorem tw10224360840118963430:True:=⟨⟩
theorem tw10249592036188079128:True:=⟨⟩
theorem tw10250243574837402119:True:=⟨⟩
theorem tw1026642617415988225:True:=⟨⟩
theorem tw10296299818106684874:True:=⟨⟩
theorem tw10302435104427656729:True:=⟨⟩
theorem tw10305795038944920181:True:=⟨⟩
theorem tw10309085395608714220:True:=⟨⟩
theorem tw10344834010857601908:True:=⟨⟩
theorem tw10350948585338964772:True:=⟨⟩
theorem tw10357696950005041718:True:=⟨⟩
theorem tw10372521353602324247:True:=⟨⟩
theorem tw10386146194747580626:True:=⟨⟩
theorem tw10397455155506846332:True:=⟨⟩
theorem tw10407030987423540169:True:=⟨⟩
theorem tw10414922257301320035:True:=⟨⟩
theorem tw10415067136580805896:True:=⟨⟩
theorem tw10452281980075765433:True:=⟨⟩
theorem tw10458654381754967099:True:=⟨⟩
theorem tw10460013188783004364:True:=⟨⟩
theorem tw10485850919347738516:True:=⟨⟩
theorem tw104889286660574942:True:=⟨⟩
theorem tw10505480928578426506:True:=⟨⟩
theorem tw10515707179493894587:True:=⟨⟩
theorem tw10533110324409978831:True:=⟨⟩
theorem tw1057283631256834038:True:=⟨⟩
theorem tw10590826110376558221:True:=⟨⟩
theorem tw10606387729944813975:True:=⟨⟩
theorem tw10629601453902470527:True:=⟨⟩
theorem tw10723749357518702774:True:=⟨⟩
theorem tw10728098800194325509:True:=⟨⟩
theorem tw10746737336877050708:True:=⟨⟩
theorem tw10763978308546930579:True:=⟨⟩
theorem tw10772570537617439352:True:=⟨⟩
theorem tw10814842440421656510:True:=⟨⟩
theorem tw10825144038736796775:True:=⟨⟩
theorem tw10826480359416030221:True:=⟨⟩
theorem tw10832855206988478685:True:=⟨⟩
theorem tw10836489966474343243:True:=⟨⟩
theorem tw10839262418973228653:True:=⟨⟩
theorem tw10862382917748819813:True:=⟨⟩
theorem tw10874164410948601753:True:=⟨⟩
theorem tw10874378043219069488:True:=⟨⟩
theorem tw10880510352714545466:True:=⟨⟩
theorem tw10907196637579821701:True:=⟨⟩
theorem tw1090764855255675192:True:=⟨⟩
theorem tw10916054147364214475:True:=⟨⟩
theorem tw10923394741768522282:True:=⟨⟩
theorem tw10932850364150182418:True:=⟨⟩
theorem tw10940338750332978609:True:=⟨⟩
theorem tw1094758580310225547:True:=⟨⟩
theorem tw10948763168644076424:True:=⟨⟩
theorem tw10954836878677837290:True:=⟨⟩
theorem tw11001821755558727208:True:=⟨⟩
theorem tw11011730217149193600:True:=⟨⟩
theorem tw11016440155836721604:True:=⟨⟩
theorem tw11046762005591291393:True:=⟨⟩
theorem tw11054911092353981311:True:=⟨⟩
theorem tw11064205975188441499:True:=⟨⟩
theorem tw11068239884818861143:True:=⟨⟩
theorem tw11088000869254195194:True:=⟨⟩
theorem tw11094422055147788571:True:=⟨⟩
theorem tw11143394727647337486:True:=⟨⟩
theorem tw11171835678131424702:True:=⟨⟩
theorem tw11172332056614768428:True:=⟨⟩
theorem tw11175415985939125724:True:=⟨⟩
theorem tw11185773433664943518:True:=⟨⟩
theorem tw1123989087283327413:True:=⟨⟩
theorem tw11247952260091797223:True:=⟨⟩
theorem tw11249709130419260736:True:=⟨⟩
theorem tw1126203166729784115:True:=⟨⟩
theorem tw11265976624502419343:True:=⟨⟩
theorem tw11281174261435981154:True:=⟨⟩
theorem tw11283503589549122435:True:=⟨⟩
theorem tw11290638926462692808:True:=⟨⟩
theorem tw11306738092912383816:True:=⟨⟩
theorem tw11342635216236010773:True:=⟨⟩
theorem tw11344723193728702376:True:=⟨⟩
theorem tw11354723713056889696:True:=⟨⟩
theorem tw113840394586414439:True:=⟨⟩
theorem tw1140304519968407317:True:=⟨⟩
theorem tw11468165453452967028:True:=⟨⟩
theorem tw11468502516494896994:True:=⟨⟩
theorem tw11479599239969438149:True:=⟨⟩
theorem tw11485196145589907088:True:=⟨⟩
theorem tw11505980495628880109:True:=⟨⟩
theorem tw11508600795981040670:True:=⟨⟩
theorem tw11510918689587906331:True:=⟨⟩
theorem tw11526046192627106615:True:=⟨⟩
theorem tw11546271655276960300:True:=⟨⟩
theorem tw1155109182798275463:True:=⟨⟩
theorem tw11557428228438283606:True:=⟨⟩
theorem tw11586409187301740871:True:=⟨⟩
theorem tw11600153691702533450:True:=⟨⟩
theorem tw11627141173588150596:True:=⟨⟩
theorem tw11629300639129302800:True:=⟨⟩
theorem tw11636989167375265763:True:=⟨⟩
theorem tw11648646793172179150:True:=⟨⟩
theorem tw1168746917550775747:True:=⟨⟩
theorem tw11696760539077902754:True:=⟨⟩
theorem tw11727631600059985809:True:=⟨⟩
theorem tw11731011827722494537:True:=⟨⟩
theorem tw11747244664618548576:True:=⟨⟩
theorem tw11761593286385810698:True:=⟨⟩
theorem tw11797572445599282411:True:=⟨⟩
theorem tw11815975552939243413:True:=⟨⟩
theorem tw11959036761198827011:True:=⟨⟩
theorem tw11962134483875102330:True:=⟨⟩
theorem tw11965942907771166476:True:=⟨⟩
theorem tw11982397665546969386:True:=⟨⟩
theorem tw11984461644297296953:True:=⟨⟩
theorem tw11998024494636995182:True:=⟨⟩
theorem tw12035427384147600578:True:=⟨⟩
theorem tw1206567035388106193:True:=⟨⟩
theorem tw12067882698908019733:True:=⟨⟩
theorem tw12082747186356729147:True:=⟨⟩
theorem tw12113311694347984659:True:=⟨⟩
theorem tw12124540587737551355:True:=⟨⟩
theorem tw12138590433884935824:True:=⟨⟩
theorem tw12152175472882811900:True:=⟨⟩
theorem tw12164961907325908706:True:=⟨⟩
theorem tw12178884395173376655:True:=⟨⟩
theorem tw12185595275070480650:True:=⟨⟩
theorem tw1220902477285353762:True:=⟨⟩
theorem tw12216584117365316947:True:=⟨⟩
theorem tw12286985445539786693:True:=⟨⟩
theorem tw12287221310929401179:True:=⟨⟩
theorem tw12292280365564750865:True:=⟨⟩
theorem tw12331771823651400101:True:=⟨⟩
theorem tw12338073694025301984:True:=⟨⟩
theorem tw12353966273571063267:True:=⟨⟩
theorem tw12354392978195619042:True:=⟨⟩
theorem tw12374809757791881079:True:=⟨⟩
theorem tw12377674348105925907:True:=⟨⟩
theorem tw12390925930247977895:True:=⟨⟩
theorem tw12408052428462726801:True:=⟨⟩
theorem tw12432749387964933590:True:=⟨⟩
theorem tw12437796446053056174:True:=⟨⟩
theorem tw1244750024581383290:True:=⟨⟩
theorem tw12462273129704840966:True:=⟨⟩
theorem tw12477466821062102429:True:=⟨⟩
theorem tw12481319625460735788:True:=⟨⟩
theorem tw12491990794907931940:True:=⟨⟩
theorem tw12545545703723313026:True:=⟨⟩
theorem tw12552617709194662050:True:=⟨⟩
theorem tw12562817948017797472:True:=⟨⟩
theorem tw12572193041504719505:True:=⟨⟩
theorem tw12578579630606953566:True:=⟨⟩
theorem tw12589091429166575234:True:=⟨⟩
theorem tw12597368649434474169:True:=⟨⟩
theorem tw12622688542563133827:True:=⟨⟩
theorem tw12625210443543323388:True:=⟨⟩
theorem tw12640281415511263436:True:=⟨⟩
theorem tw12655826368651173765:True:=⟨⟩
theorem tw12659978593469820096:True:=⟨⟩
theorem tw12673265617623630816:True:=⟨⟩
theorem tw1269350712292928185:True:=⟨⟩
theorem tw12745748093713006412:True:=⟨⟩
theorem tw12762166179490204401:True:=⟨⟩
theorem tw12778858452623771514:True:=⟨⟩
theorem tw12786467789115739560:True:=⟨⟩
theorem tw12802407705830074207:True:=⟨⟩
theorem tw12817117102533636495:True:=⟨⟩
theorem tw12824605041721999595:True:=⟨⟩
theorem tw12829464638173673107:True:=⟨⟩
theorem tw12851777507020604372:True:=⟨⟩
theorem tw12855628987967908601:True:=⟨⟩
theorem tw12858896976923797064:True:=⟨⟩
theorem tw12872166730024441132:True:=⟨⟩
theorem tw12873220095352121431:True:=⟨⟩
theorem tw12901242131509760013:True:=⟨⟩
theorem tw12902559525705931842:True:=⟨⟩
theorem tw1297493186920796281:True:=⟨⟩
theorem tw12977696527084619279:True:=⟨⟩
theorem tw13031546488165125564:True:=⟨⟩
theorem tw13039184855655932537:True:=⟨⟩
theorem tw13046895752648194933:True:=⟨⟩
theorem tw13051763374683824602:True:=⟨⟩
theorem tw13062943506510232114:True:=⟨⟩
theorem tw13069250345739707864:True:=⟨⟩
theorem tw13079165601089991145:True:=⟨⟩
theorem tw1308926397501988059:True:=⟨⟩
theorem tw13110168981031916725:True:=⟨⟩
theorem tw1314237250367588335:True:=⟨⟩
theorem tw13160633226936444994:True:=⟨⟩
theorem tw13162776828819675097:True:=⟨⟩
theorem tw13175872780525125117:True:=⟨⟩
theorem tw13183521527567345932:True:=⟨⟩
theorem tw13189999525151778066:True:=⟨⟩
theorem tw13195155036777514472:True:=⟨⟩
theorem tw13246764017499302452:True:=⟨⟩
theorem tw13250798521456905796:True:=⟨⟩
theorem tw13257151336333516013:True:=⟨⟩
theorem tw13257214576728602472:True:=⟨⟩
theorem tw13276767447366037924:True:=⟨⟩
theorem tw13308322583677570060:True:=⟨⟩
theorem tw13320745197284909384:True:=⟨⟩
theorem tw13324105168704265595:True:=⟨⟩
theorem tw13349248146218370631:True:=⟨⟩
theorem tw13366446735791610533:True:=⟨⟩
theorem tw13376933687257965177:True:=⟨⟩
theorem tw13390377524697249026:True:=⟨⟩
theorem tw13390771818870003143:True:=⟨⟩
theorem tw13410164332819525104:True:=⟨⟩
theorem tw13411215928678359360:True:=⟨⟩
theorem tw13442261530614629333:True:=⟨⟩
theorem tw13449368820067402073:True:=⟨⟩
theorem tw13472270668343080521:True:=⟨⟩
theorem tw13475955420947343675:True:=⟨⟩
theorem tw13509898508042802754:True:=⟨⟩
theorem tw13514661353689827312:True:=⟨⟩
theorem tw13537412214804094562:True:=⟨⟩
theorem tw13550992265264873152:True:=⟨⟩
theorem tw13581453287181444317:True:=⟨⟩
theorem tw13581765178996920390:True:=⟨⟩
theorem tw13630588643310155639:True:=⟨⟩
theorem tw13635270465545506380:True:=⟨⟩
theorem tw13640272903234078574:True:=⟨⟩
theorem tw13668106950354679392:True:=⟨⟩
theorem tw13719565316278312636:True:=⟨⟩
theorem tw13732708313983657529:True:=⟨⟩
theorem tw13746863161916987850:True:=⟨⟩
theorem tw13767024053025511904:True:=⟨⟩
theorem tw13770420594716932015:True:=⟨⟩
theorem tw13792781822525461134:True:=⟨⟩
theorem tw13806516255209311368:True:=⟨⟩
theorem tw1384098398728058145:True:=⟨⟩
theorem tw13845557525906187334:True:=⟨⟩
theorem tw13846703977051667263:True:=⟨⟩
theorem tw13857037820772785329:True:=⟨⟩
theorem tw13862687694006870612:True:=⟨⟩
theorem tw13863460959568510414:True:=⟨⟩
theorem tw1387181594420015104:True:=⟨⟩
theorem tw13879994455129493259:True:=⟨⟩
theorem tw13915908020197805111:True:=⟨⟩
theorem tw13918583878269630975:True:=⟨⟩
theorem tw13954484217424562233:True:=⟨⟩
theorem tw13959520542054466753:True:=⟨⟩
theorem tw14005827856371843364:True:=⟨⟩
theorem tw14007299174097078657:True:=⟨⟩
theorem tw14031036989899294655:True:=⟨⟩
theorem tw14040265485904361180:True:=⟨⟩
theorem tw14045785540243927616:True:=⟨⟩
theorem tw14060741842424865979:True:=⟨⟩
theorem tw140640854431783811:True:=⟨⟩
theorem tw14064684238236955216:True:=⟨⟩
theorem tw14098311263417736686:True:=⟨⟩
theorem tw14108755291351199500:True:=⟨⟩
theorem tw14165122626021767104:True:=⟨⟩
theorem tw14201569282538785596:True:=⟨⟩
theorem tw14215601074492520356:True:=⟨⟩
theorem tw1423352743939721322:True:=⟨⟩
theorem tw14249744995706676187:True:=⟨⟩
theorem tw14286388975577998956:True:=⟨⟩
theorem tw14288972999207554811:True:=⟨⟩
theorem tw14300178438497743950:True:=⟨⟩
theorem tw14305296767000436891:True:=⟨⟩
theorem tw14325216140805403939:True:=⟨⟩
theorem tw14338248038517948556:True:=⟨⟩
theorem tw14347158328536569304:True:=⟨⟩
theorem tw1438902305671929549:True:=⟨⟩
theorem tw14396251407550182512:True:=⟨⟩
theorem tw14414217278276872951:True:=⟨⟩
theorem tw14415922504726166179:True:=⟨⟩
theorem tw1441682879238972689:True:=⟨⟩
theorem tw14422295265896150008:True:=⟨⟩
theorem tw14423544910301835909:True:=⟨⟩
theorem tw14427897364036298982:True:=⟨⟩
theorem tw14443234774277117686:True:=⟨⟩
theorem tw14473447975431719473:True:=⟨⟩
theorem tw14480442840448163466:True:=⟨⟩
theorem tw14485962727211852770:True:=⟨⟩
theorem tw14492313662746952526:True:=⟨⟩
theorem tw14508760535711976736:True:=⟨⟩
theorem tw14512864191628734702:True:=⟨⟩
theorem tw14572916401846278922:True:=⟨⟩
theorem tw14577524023124792554:True:=⟨⟩
theorem tw14579253973469386999:True:=⟨⟩
theorem tw14582703698596026559:True:=⟨⟩
theorem tw14594811972378830130:True:=⟨⟩
theorem tw14627474561967614709:True:=⟨⟩
theorem tw14657062988370665836:True:=⟨⟩
theorem tw14672356178199874359:True:=⟨⟩
theorem tw14696581190100408406:True:=⟨⟩
theorem tw14720426257500914624:True:=⟨⟩
theorem tw14753944453365734057:True:=⟨⟩
theorem tw14793638126418775891:True:=⟨⟩
theorem tw14868859001621878791:True:=⟨⟩
theorem tw1493173100341254314:True:=⟨⟩
theorem tw14940559973545525715:True:=⟨⟩
theorem tw14940652628757795196:True:=⟨⟩
theorem tw1494232437088284410:True:=⟨⟩
theorem tw14946407619626681526:True:=⟨⟩
theorem tw14951126294409032885:True:=⟨⟩
theorem tw1495740877110671925:True:=⟨⟩
theorem tw14961085865811423947:True:=⟨⟩
theorem tw1499433986819679938:True:=⟨⟩
theorem tw15035459314451192685:True:=⟨⟩
theorem tw15035671722019894106:True:=⟨⟩
theorem tw15051525263469611650:True:=⟨⟩
theorem tw15090932151583912903:True:=⟨⟩
theorem tw15100010667688412833:True:=⟨⟩
theorem tw1512546217641134837:True:=⟨⟩
theorem tw1512969457490399775:True:=⟨⟩
theorem tw15176163899378700781:True:=⟨⟩
theorem tw15196311969517532090:True:=⟨⟩
theorem tw15217727574289221249:True:=⟨⟩
theorem tw15230538745179053097:True:=⟨⟩
theorem tw15246683144423788103:True:=⟨⟩
theorem tw15249136554760158173:True:=⟨⟩
theorem tw15278560419324327028:True:=⟨⟩
theorem tw15302117666455467648:True:=⟨⟩
theorem tw1530481100367676372:True:=⟨⟩
theorem tw15312111127289359801:True:=⟨⟩
theorem tw15373424440816472986:True:=⟨⟩
theorem tw15407070742305341865:True:=⟨⟩
theorem tw15423173404783017597:True:=⟨⟩
theorem tw15466041496015129043:True:=⟨⟩
theorem tw15490614341807144960:True:=⟨⟩
theorem tw15542907133662095543:True:=⟨⟩
theorem tw15550033546924390850:True:=⟨⟩
theorem tw15554762202569029735:True:=⟨⟩
theorem tw15556271289118386400:True:=⟨⟩
theorem tw15557904806863800789:True:=⟨⟩
theorem tw15584218049889366789:True:=⟨⟩
theorem tw15618127427954949101:True:=⟨⟩
theorem tw15622027606221494652:True:=⟨⟩
theorem tw15641254397815949873:True:=⟨⟩
theorem tw15677246781937635751:True:=⟨⟩
theorem tw15705714704798042915:True:=⟨⟩
theorem tw15709616354661213212:True:=⟨⟩
theorem tw15713649808055288441:True:=⟨⟩
theorem tw15724609970804234283:True:=⟨⟩
theorem tw15727353791540354860:True:=⟨⟩
theorem tw15752830634621569457:True:=⟨⟩
theorem tw15781438292810385379:True:=⟨⟩
theorem tw15783614587040091405:True:=⟨⟩
theorem tw15798434271551112992:True:=⟨⟩
theorem tw15802031279065414281:True:=⟨⟩
theorem tw15802726470985648802:True:=⟨⟩
theorem tw15833026361559840693:True:=⟨⟩
theorem tw15834546043735535884:True:=⟨⟩
theorem tw15837595572891351721:True:=⟨⟩
theorem tw15845461206114239419:True:=⟨⟩
theorem tw15868890539677070396:True:=⟨⟩
theorem tw15884707362618626841:True:=⟨⟩
theorem tw15931048341140821030:True:=⟨⟩
theorem tw15962553698313031077:True:=⟨⟩
theorem tw1597314445240431372:True:=⟨⟩
theorem tw15974770434805098543:True:=⟨⟩
theorem tw15982850896900782585:True:=⟨⟩
theorem tw15990284953989293202:True:=⟨⟩
theorem tw16003609316723752765:True:=⟨⟩
theorem tw16010185613535716317:True:=⟨⟩
theorem tw16027740847986166699:True:=⟨⟩
theorem tw16030892461612492691:True:=⟨⟩
theorem tw16035488922018503107:True:=⟨⟩
theorem tw16040109146569757792:True:=⟨⟩
theorem tw16044553811959181604:True:=⟨⟩
theorem tw16046183349562758134:True:=⟨⟩
theorem tw16076805698151344603:True:=⟨⟩
theorem tw16083083029804659062:True:=⟨⟩
theorem tw16110169381831498530:True:=⟨⟩
theorem tw16153032024966602299:True:=⟨⟩
theorem tw16177476347208033446:True:=⟨⟩
theorem tw16188394854673218454:True:=⟨⟩
theorem tw16201420796954765137:True:=⟨⟩
theorem tw16225037540032678295:True:=⟨⟩
theorem tw16328554638242285845:True:=⟨⟩
theorem tw16372071147675540489:True:=⟨⟩
theorem tw16401768965325915615:True:=⟨⟩
theorem tw16416736043039545831:True:=⟨⟩
theorem tw16421675773409190294:True:=⟨⟩
theorem tw1642365603876983707:True:=⟨⟩
theorem tw16437039937234113899:True:=⟨⟩
theorem tw16442527305422697972:True:=⟨⟩
theorem tw16448577078982126916:True:=⟨⟩
theorem tw16461148496868087622:True:=⟨⟩
theorem tw16480693138309746807:True:=⟨⟩
theorem tw16505374256258664120:True:=⟨⟩
theorem tw16560618642301711389:True:=⟨⟩
theorem tw16618056261966044177:True:=⟨⟩
theorem tw16641385307845392136:True:=⟨⟩
theorem tw1664499552328569465:True:=⟨⟩
theorem tw16647715465332866717:True:=⟨⟩
theorem tw16688642076361585515:True:=⟨⟩
theorem tw16710859044565004235:True:=⟨⟩
theorem tw16722350663929246941:True:=⟨⟩
theorem tw16741044766758025543:True:=⟨⟩
theorem tw16766728676621519226:True:=⟨⟩
theorem tw16776203489075879460:True:=⟨⟩
theorem tw16791908385445053268:True:=⟨⟩
theorem tw16808337864071531291:True:=⟨⟩
theorem tw16820015653507034951:True:=⟨⟩
theorem tw16854565387666283286:True:=⟨⟩
theorem tw16857561991424219324:True:=⟨⟩
theorem tw16906202702779241495:True:=⟨⟩
theorem tw16917696998093359844:True:=⟨⟩
theorem tw16936940087280152696:True:=⟨⟩
theorem tw16937413979866860718:True:=⟨⟩
theorem tw16987121816569473167:True:=⟨⟩
theorem tw16999448053258088601:True:=⟨⟩
theorem tw17000984267990200693:True:=⟨⟩
theorem tw17013321342223999708:True:=⟨⟩
theorem tw17013873413458881705:True:=⟨⟩
theorem tw17032297480320549912:True:=⟨⟩
theorem tw17042073198570751437:True:=⟨⟩
theorem tw17080040057006218103:True:=⟨⟩
theorem tw17092507149219294896:True:=⟨⟩
theorem tw17100377655517684544:True:=⟨⟩
theorem tw17103358818948393290:True:=⟨⟩
theorem tw17114092101572916603:True:=⟨⟩
theorem tw17114534446880182368:True:=⟨⟩
theorem tw17121141690128070261:True:=⟨⟩
theorem tw17148705648381100504:True:=⟨⟩
theorem tw1715120621074758494:True:=⟨⟩
theorem tw17161107894211559320:True:=⟨⟩
theorem tw17178445293192168889:True:=⟨⟩
theorem tw17206061561012734085:True:=⟨⟩
theorem tw17214086772132861259:True:=⟨⟩
theorem tw17214240745223550600:True:=⟨⟩
theorem tw17231748245418880033:True:=⟨⟩
theorem tw1725671477926803867:True:=⟨⟩
theorem tw17258314642477479482:True:=⟨⟩
theorem tw17267812235765236903:True:=⟨⟩
theorem tw17280029898834739284:True:=⟨⟩
theorem tw1729510056553044428:True:=⟨⟩
theorem tw17296447015127743236:True:=⟨⟩
theorem tw17297290530186416629:True:=⟨⟩
theorem tw17303567306155679255:True:=⟨⟩
theorem tw17313973243153953002:True:=⟨⟩
theorem tw17314109004634205553:True:=⟨⟩
theorem tw17326108559314968715:True:=⟨⟩
theorem tw17357987663816993116:True:=⟨⟩
theorem tw17389065085206870139:True:=⟨⟩
theorem tw17419331732961004824:True:=⟨⟩
theorem tw17425785420690958281:True:=⟨⟩
theorem tw17431273780671130463:True:=⟨⟩
theorem tw17440361959084801653:True:=⟨⟩
theorem tw17448778763131349543:True:=⟨⟩
theorem tw17455250597111082582:True:=⟨⟩
theorem tw17471161885288624231:True:=⟨⟩
theorem tw17494379128874976530:True:=⟨⟩
theorem tw17499119844805605157:True:=⟨⟩
theorem tw17518705132908295255:True:=⟨⟩
theorem tw17530885066373689763:True:=⟨⟩
theorem tw17566987468457234429:True:=⟨⟩
theorem tw17648118812056450667:True:=⟨⟩
theorem tw17654298966829987580:True:=⟨⟩
theorem tw17654920398769735394:True:=⟨⟩
theorem tw17673744690117897408:True:=⟨⟩
theorem tw17694437769087781630:True:=⟨⟩
theorem tw17702899676070730226:True:=⟨⟩
theorem tw17708825651225098094:True:=⟨⟩
theorem tw17712819639315906947:True:=⟨⟩
theorem tw17721632246615433551:True:=⟨⟩
theorem tw17724901512466836998:True:=⟨⟩
theorem tw17734793350411554783:True:=⟨⟩
theorem tw1774244419165827251:True:=⟨⟩
theorem tw17747921532387604031:True:=⟨⟩
theorem tw17786908078962250582:True:=⟨⟩
theorem tw17804262774145994546:True:=⟨⟩
theorem tw17805718197549441075:True:=⟨⟩
theorem tw1786477491429959196:True:=⟨⟩
theorem tw17870296109711275874:True:=⟨⟩
theorem tw17884565470258199197:True:=⟨⟩
theorem tw17907190329835742043:True:=⟨⟩
theorem tw17909194588088838669:True:=⟨⟩
theorem tw17915443926085530992:True:=⟨⟩
theorem tw17932529675455536205:True:=⟨⟩
theorem tw17939526301866555194:True:=⟨⟩
theorem tw17951054576106973473:True:=⟨⟩
theorem tw17955612237551764678:True:=⟨⟩
theorem tw17955627881272705945:True:=⟨⟩
theorem tw17987948001181990155:True:=⟨⟩
theorem tw18017826333369274686:True:=⟨⟩
theorem tw18017894919959805294:True:=⟨⟩
theorem tw18023141348979660959:True:=⟨⟩
theorem tw1802834572402844774:True:=⟨⟩
theorem tw18037770881981417894:True:=⟨⟩
theorem tw18039113081209382231:True:=⟨⟩
theorem tw18111941901945638755:True:=⟨⟩
theorem tw18146860059879598536:True:=⟨⟩
theorem tw18155493798578305743:True:=⟨⟩
theorem tw18159304346776532128:True:=⟨⟩
theorem tw18165687365141398564:True:=⟨⟩
theorem tw18189682818668125048:True:=⟨⟩
theorem tw18203689535063478132:True:=⟨⟩
theorem tw18206255812219622149:True:=⟨⟩
theorem tw18207134531796016301:True:=⟨⟩
theorem tw18241107282087824248:True:=⟨⟩
theorem tw1825306335068362454:True:=⟨⟩
theorem tw18298927598653720819:True:=⟨⟩
theorem tw1831123994163249252:True:=⟨⟩
theorem tw18316690524777832096:True:=⟨⟩
theorem tw18364055537215301999:True:=⟨⟩
theorem tw18394319701011697508:True:=⟨⟩
theorem tw18414779700217491303:True:=⟨⟩
theorem tw1869765097327863836:True:=⟨⟩
theorem tw1878201954910067727:True:=⟨⟩
theorem tw1917231362710448531:True:=⟨⟩
theorem tw1929119352677986469:True:=⟨⟩
theorem tw1930895741848064642:True:=⟨⟩
theorem tw1956430531970777290:True:=⟨⟩
theorem tw1974721082354822350:True:=⟨⟩
theorem tw198032898922750992:True:=⟨⟩
theorem tw1983358849448490167:True:=⟨⟩
theorem tw1990152197848752726:True:=⟨⟩
theorem tw1996036968644813246:True:=⟨⟩
theorem tw2000770415581958774:True:=⟨⟩
theorem tw2007031149374381640:True:=⟨⟩
theorem tw2042407360006193010:True:=⟨⟩
theorem tw2054154788919417630:True:=⟨⟩
theorem tw206814089914310951:True:=⟨⟩
theorem tw2103672696644704215:True:=⟨⟩
theorem tw2139803084004549999:True:=⟨⟩
theorem tw215214886402058695:True:=⟨⟩
theorem tw217443208964749834:True:=⟨⟩
theorem tw2178342413845504596:True:=⟨⟩
theorem tw2178490623042727758:True:=⟨⟩
theorem tw2190808893408053169:True:=⟨⟩
theorem tw2191977042887155504:True:=⟨⟩
theorem tw2198500633384045450:True:=⟨⟩
theorem tw2216630136555482241:True:=⟨⟩
theorem tw2241240692838250267:True:=⟨⟩
theorem tw2269531263640259734:True:=⟨⟩
theorem tw2293577379363152482:True:=⟨⟩
theorem tw2294075813571160879:True:=⟨⟩
theorem tw2295881648805526096:True:=⟨⟩
theorem tw2296562322948076438:True:=⟨⟩
theorem tw2314968490883414602:True:=⟨⟩
theorem tw2349622172027048987:True:=⟨⟩
theorem tw2366640885290698202:True:=⟨⟩
theorem tw2498172733858115846:True:=⟨⟩
theorem tw2507141536782340330:True:=⟨⟩
theorem tw2516705496801789092:True:=⟨⟩
theorem tw2530723678585290077:True:=⟨⟩
theorem tw258233378868311936:True:=⟨⟩
theorem tw2636253422744857022:True:=⟨⟩
theorem tw264423334742078750:True:=⟨⟩
theorem tw2668305980650784246:True:=⟨⟩
theorem tw2687635561390671551:True:=⟨⟩
theorem tw2693454037913846054:True:=⟨⟩
theorem tw2702174029024444056:True:=⟨⟩
theorem tw2728283070988912879:True:=⟨⟩
theorem tw2741193812800411951:True:=⟨⟩
theorem tw2746952451013255021:True:=⟨⟩
theorem tw2776006807870607812:True:=⟨⟩
theorem tw2782624519275293422:True:=⟨⟩
theorem tw2794261787216237744:True:=⟨⟩
theorem tw2857814629201592773:True:=⟨⟩
theorem tw2873485660495235627:True:=⟨⟩
theorem tw2973855930877010843:True:=⟨⟩
theorem tw2997526208154173190:True:=⟨⟩
theorem tw3002426797286255783:True:=⟨⟩
theorem tw3023605514707144745:True:=⟨⟩
theorem tw3049039846653406991:True:=⟨⟩
theorem tw3052256098353934361:True:=⟨⟩
theorem tw3055261567579589150:True:=⟨⟩
theorem tw3058498592249875095:True:=⟨⟩
theorem tw3099067818304959121:True:=⟨⟩
theorem tw3121241813119491033:True:=⟨⟩
theorem tw3126888366309358336:True:=⟨⟩
theorem tw3168608307289388870:True:=⟨⟩
theorem tw3195544209135350097:True:=⟨⟩
theorem tw3199013022971410629:True:=⟨⟩
theorem tw3246669774840609970:True:=⟨⟩
theorem tw3302048831068800884:True:=⟨⟩
theorem tw3318178260489153099:True:=⟨⟩
theorem tw3320162995846674370:True:=⟨⟩
theorem tw3365470364856083:True:=⟨⟩
theorem tw33832685936341548:True:=⟨⟩
theorem tw3403509011611972384:True:=⟨⟩
theorem tw3425393584190486287:True:=⟨⟩
theorem tw3431356594755137225:True:=⟨⟩
theorem tw3441693648263067685:True:=⟨⟩
theorem tw3446039206123135267:True:=⟨⟩
theorem tw3465396518471573814:True:=⟨⟩
theorem tw3467560701091682615:True:=⟨⟩
theorem tw3473499224550047600:True:=⟨⟩
theorem tw3478284216064611007:True:=⟨⟩
theorem tw3503595187335693983:True:=⟨⟩
theorem tw3544293042028450075:True:=⟨⟩
theorem tw3548547782300602943:True:=⟨⟩
theorem tw3583788385509805853:True:=⟨⟩
theorem tw3612138436398573488:True:=⟨⟩
theorem tw3633217002809444047:True:=⟨⟩
theorem tw3675259533038308720:True:=⟨⟩
theorem tw3678318609723987374:True:=⟨⟩
theorem tw3745207088435596908:True:=⟨⟩
theorem tw3749740263821355127:True:=⟨⟩
theorem tw3754468272493324437:True:=⟨⟩
theorem tw3766684434965799323:True:=⟨⟩
theorem tw3773062243637250256:True:=⟨⟩
theorem tw3774323398764069078:True:=⟨⟩
theorem tw3778114662202243267:True:=⟨⟩
theorem tw3792007043989430316:True:=⟨⟩
theorem tw3800886536119132832:True:=⟨⟩
theorem tw3803159782261780071:True:=⟨⟩
theorem tw3806718758141544176:True:=⟨⟩
theorem tw3809443473659285453:True:=⟨⟩
theorem tw3823002113026293884:True:=⟨⟩
theorem tw3831193552445914120:True:=⟨⟩
theorem tw384392073183827106:True:=⟨⟩
theorem tw3851132559041957935:True:=⟨⟩
theorem tw3864055289444571033:True:=⟨⟩
theorem tw3864335068675436495:True:=⟨⟩
theorem tw387533482241455507:True:=⟨⟩
theorem tw3898854501408041374:True:=⟨⟩
theorem tw390109051383789224:True:=⟨⟩
theorem tw3904493487167500769:True:=⟨⟩
theorem tw3941719521735548933:True:=⟨⟩
theorem tw3955889899310466586:True:=⟨⟩
theorem tw3958710224753219948:True:=⟨⟩
theorem tw3959245617988664648:True:=⟨⟩
theorem tw3965601927701766113:True:=⟨⟩
theorem tw3978737944458054899:True:=⟨⟩
theorem tw3987870806285667533:True:=⟨⟩
theorem tw4015953807317474082:True:=⟨⟩
theorem tw4035062351940953433:True:=⟨⟩
theorem tw4041487796511522760:True:=⟨⟩
theorem tw4048323837848254447:True:=⟨⟩
theorem tw406911491535804402:True:=⟨⟩
theorem tw4116315196097077894:True:=⟨⟩
theorem tw4125988392439573290:True:=⟨⟩
theorem tw4150944250108321453:True:=⟨⟩
theorem tw4186771481829417034:True:=⟨⟩
theorem tw4199204020942529822:True:=⟨⟩
theorem tw4203645457731992280:True:=⟨⟩
theorem tw4218548350556451698:True:=⟨⟩
theorem tw4231173081018764789:True:=⟨⟩
theorem tw4292418875058829263:True:=⟨⟩
theorem tw4345407116730157734:True:=⟨⟩
theorem tw4359105942670733616:True:=⟨⟩
theorem tw4363944094186042203:True:=⟨⟩
theorem tw4376551896688870000:True:=⟨⟩
theorem tw4380093651984819648:True:=⟨⟩
theorem tw4393408643073464778:True:=⟨⟩
theorem tw4404218868684915768:True:=⟨⟩
theorem tw44048401167379536:True:=⟨⟩
theorem tw4410036436154384536:True:=⟨⟩
theorem tw4415921295612205336:True:=⟨⟩
theorem tw4431893868045946463:True:=⟨⟩
theorem tw4435599742212146334:True:=⟨⟩
theorem tw4436552993882733013:True:=⟨⟩
theorem tw4444544767841391627:True:=⟨⟩
theorem tw4453827265030727412:True:=⟨⟩
theorem tw4454749953763188837:True:=⟨⟩
theorem tw4474066057246472379:True:=⟨⟩
theorem tw448328460992417285:True:=⟨⟩
theorem tw4484028088078438408:True:=⟨⟩
theorem tw4485548699963709933:True:=⟨⟩
theorem tw448675812597370685:True:=⟨⟩
theorem tw4494471750686710222:True:=⟨⟩
theorem tw4500225962057987459:True:=⟨⟩
theorem tw454115687166515949:True:=⟨⟩
theorem tw4567034687311327529:True:=⟨⟩
theorem tw4626324563194348409:True:=⟨⟩
theorem tw463603161914233574:True:=⟨⟩
theorem tw4672163335933802665:True:=⟨⟩
theorem tw4683715547542114046:True:=⟨⟩
theorem tw4696244719595283745:True:=⟨⟩
theorem tw4746827732444513037:True:=⟨⟩
theorem tw4748578212882696846:True:=⟨⟩
theorem tw4749030555619550186:True:=⟨⟩
theorem tw478081758502990878:True:=⟨⟩
theorem tw4782635468180704824:True:=⟨⟩
theorem tw4785115736143125634:True:=⟨⟩
theorem tw4804828131488812414:True:=⟨⟩
theorem tw4847490577543894088:True:=⟨⟩
theorem tw4850628765256676781:True:=⟨⟩
theorem tw485582780219342460:True:=⟨⟩
theorem tw4861306028931953426:True:=⟨⟩
theorem tw4873404589351043446:True:=⟨⟩
theorem tw4882882999757841406:True:=⟨⟩
theorem tw4886892684845474122:True:=⟨⟩
theorem tw4888893004419970043:True:=⟨⟩
theorem tw4890527609804025463:True:=⟨⟩
theorem tw4941428550667672163:True:=⟨⟩
theorem tw4942563654290620240:True:=⟨⟩
theorem tw4954765762980564977:True:=⟨⟩
theorem tw4971488135421998901:True:=⟨⟩
theorem tw500663708038745258:True:=⟨⟩
theorem tw5013455297547043729:True:=⟨⟩
theorem tw5020707482700620944:True:=⟨⟩
theorem tw5036384045079583575:True:=⟨⟩
theorem tw5050211913992566191:True:=⟨⟩
theorem tw5069337332586770314:True:=⟨⟩
theorem tw5108868195347255050:True:=⟨⟩
theorem tw5119178041707473850:True:=⟨⟩
theorem tw5141298278182696449:True:=⟨⟩
theorem tw5148601564541622256:True:=⟨⟩
theorem tw5150123308660418688:True:=⟨⟩
theorem tw5161844133086693373:True:=⟨⟩
theorem tw516473960116707322:True:=⟨⟩
theorem tw5164906240776599918:True:=⟨⟩
theorem tw518847003565698691:True:=⟨⟩
theorem tw5229521929352843904:True:=⟨⟩
theorem tw5237922589088570466:True:=⟨⟩
theorem tw5266626129804181847:True:=⟨⟩
theorem tw5269928424375079785:True:=⟨⟩
theorem tw5283698212147653181:True:=⟨⟩
theorem tw528789658872599769:True:=⟨⟩
theorem tw5289867670381689147:True:=⟨⟩
theorem tw5304416813032855372:True:=⟨⟩
theorem tw5304468433914715630:True:=⟨⟩
theorem tw5339456915209906065:True:=⟨⟩
theorem tw5350706325447293174:True:=⟨⟩
theorem tw5366629977300468637:True:=⟨⟩
theorem tw5379878895746910749:True:=⟨⟩
theorem tw5384238604202054883:True:=⟨⟩
theorem tw5385412463565247094:True:=⟨⟩
theorem tw542356833908160907:True:=⟨⟩
theorem tw547173992472487933:True:=⟨⟩
theorem tw5473908834374000092:True:=⟨⟩
theorem tw5485049572281218402:True:=⟨⟩
theorem tw5490423932988703582:True:=⟨⟩
theorem tw549189695567912901:True:=⟨⟩
theorem tw5500771608712711976:True:=⟨⟩
theorem tw5511846349700150779:True:=⟨⟩
theorem tw5519436570351249511:True:=⟨⟩
theorem tw5535216080896306702:True:=⟨⟩
theorem tw5541873105793868304:True:=⟨⟩
theorem tw5551532887418766549:True:=⟨⟩
theorem tw5572752005224699908:True:=⟨⟩
theorem tw5581351262841704490:True:=⟨⟩
theorem tw5581438371381295071:True:=⟨⟩
theorem tw5608538756783121964:True:=⟨⟩
theorem tw5608609344920978997:True:=⟨⟩
theorem tw5615011194061197980:True:=⟨⟩
theorem tw5633431306062564567:True:=⟨⟩
theorem tw56640029984677273:True:=⟨⟩
theorem tw5689283801784062046:True:=⟨⟩
theorem tw5695665528679703840:True:=⟨⟩
theorem tw5702234176155455602:True:=⟨⟩
theorem tw5712116715846622141:True:=⟨⟩
theorem tw5717685507640744989:True:=⟨⟩
theorem tw5723503966022892775:True:=⟨⟩
theorem tw5726788692678788155:True:=⟨⟩
theorem tw5744469310183993887:True:=⟨⟩
theorem tw5821282957513525424:True:=⟨⟩
theorem tw5839083478463544043:True:=⟨⟩
theorem tw5857439206750606036:True:=⟨⟩
theorem tw5899502807022963850:True:=⟨⟩
theorem tw591370495084368172:True:=⟨⟩
theorem tw591631920562008163:True:=⟨⟩
theorem tw5918738462316677458:True:=⟨⟩
theorem tw5948704944844905821:True:=⟨⟩
theorem tw5959555148096563306:True:=⟨⟩
theorem tw5962972262994285265:True:=⟨⟩
theorem tw5965924006813582849:True:=⟨⟩
theorem tw5968873951887037581:True:=⟨⟩
theorem tw5970240932203409684:True:=⟨⟩
theorem tw5970606078896983222:True:=⟨⟩
theorem tw5987355511626037583:True:=⟨⟩
theorem tw598795676971215854:True:=⟨⟩
theorem tw5990832489997728645:True:=⟨⟩
theorem tw6028454213651384053:True:=⟨⟩
theorem tw6050164527148384910:True:=⟨⟩
theorem tw6052472551349838054:True:=⟨⟩
theorem tw6057542223958930969:True:=⟨⟩
theorem tw6080950445226433994:True:=⟨⟩
theorem tw6096653941942136949:True:=⟨⟩
theorem tw6110241688206293604:True:=⟨⟩
theorem tw6124366631056110574:True:=⟨⟩
theorem tw6127851177894062474:True:=⟨⟩
theorem tw615210359074534995:True:=⟨⟩
theorem tw6183532285834214607:True:=⟨⟩
theorem tw6235364944822067094:True:=⟨⟩
theorem tw6243168772045532202:True:=⟨⟩
theorem tw6245164780858700792:True:=⟨⟩
theorem tw6246534438952034831:True:=⟨⟩
theorem tw6287997089292401823:True:=⟨⟩
theorem tw6299396842060278143:True:=⟨⟩
theorem tw630454287158182539:True:=⟨⟩
theorem tw6308083416495292281:True:=⟨⟩
theorem tw6329439108201360722:True:=⟨⟩
theorem tw6382974290069604591:True:=⟨⟩
theorem tw6414047622760552453:True:=⟨⟩
theorem tw6420267462447596636:True:=⟨⟩
theorem tw6439514542877459932:True:=⟨⟩
theorem tw6439714370691273190:True:=⟨⟩
theorem tw6459306397031339477:True:=⟨⟩
theorem tw6482727246311355726:True:=⟨⟩
theorem tw6547434186974729258:True:=⟨⟩
theorem tw6601120445056070284:True:=⟨⟩
theorem tw663308357670336937:True:=⟨⟩
theorem tw6634547390489108358:True:=⟨⟩
theorem tw6649615422378724500:True:=⟨⟩
theorem tw6666377689801911859:True:=⟨⟩
theorem tw6704655166844901934:True:=⟨⟩
theorem tw6718260745079706214:True:=⟨⟩
theorem tw6722619806568567317:True:=⟨⟩
theorem tw67568186074337003:True:=⟨⟩
theorem tw6771703732559107742:True:=⟨⟩
theorem tw6781090298132848051:True:=⟨⟩
theorem tw6785901482512417737:True:=⟨⟩
theorem tw6816793172572001451:True:=⟨⟩
theorem tw6821597338055701669:True:=⟨⟩
theorem tw682583845592109288:True:=⟨⟩
theorem tw6833822925393349968:True:=⟨⟩
theorem tw6852515780217621194:True:=⟨⟩
theorem tw6854600058786028135:True:=⟨⟩
theorem tw6854925519463645645:True:=⟨⟩
theorem tw6861186449659157632:True:=⟨⟩
theorem tw686784610144474501:True:=⟨⟩
theorem tw6870722415960519138:True:=⟨⟩
theorem tw6917228962823704093:True:=⟨⟩
theorem tw6949930804887481743:True:=⟨⟩
theorem tw6972636671258589683:True:=⟨⟩
theorem tw6978502022216026142:True:=⟨⟩
theorem tw6985295288330506497:True:=⟨⟩
theorem tw7003238227474012337:True:=⟨⟩
theorem tw7003244477686297938:True:=⟨⟩
theorem tw7033523004761056413:True:=⟨⟩
theorem tw7056643075758744639:True:=⟨⟩
theorem tw7070333414407639711:True:=⟨⟩
theorem tw7091353616853510043:True:=⟨⟩
theorem tw7115197196197431689:True:=⟨⟩
theorem tw7121465853740291596:True:=⟨⟩
theorem tw7126441994174125082:True:=⟨⟩
theorem tw713171199821834825:True:=⟨⟩
theorem tw7139594746758052227:True:=⟨⟩
theorem tw7150277680904063942:True:=⟨⟩
theorem tw7166364244797941167:True:=⟨⟩
theorem tw7202602263530410024:True:=⟨⟩
theorem tw7210102003811551:True:=⟨⟩
theorem tw7236000049799910392:True:=⟨⟩
theorem tw7243360094335076226:True:=⟨⟩
theorem tw72486070090622160:True:=⟨⟩
theorem tw7291647667491334283:True:=⟨⟩
theorem tw730705836049135821:True:=⟨⟩
theorem tw7338506855797360169:True:=⟨⟩
theorem tw7346387320053678418:True:=⟨⟩
theorem tw7373226506090286531:True:=⟨⟩
theorem tw7397529450619673968:True:=⟨⟩
theorem tw7426069123236101429:True:=⟨⟩
theorem tw7448556219392931635:True:=⟨⟩
theorem tw7455910556196606924:True:=⟨⟩
theorem tw7469629150244694973:True:=⟨⟩
theorem tw7493907524615760172:True:=⟨⟩
theorem tw7503425146635674679:True:=⟨⟩
theorem tw7532324505685845435:True:=⟨⟩
theorem tw7546511349370786015:True:=⟨⟩
theorem tw7553281612460030148:True:=⟨⟩
theorem tw7559680599930412813:True:=⟨⟩
theorem tw7562604338393642645:True:=⟨⟩
theorem tw7568785802848586763:True:=⟨⟩
theorem tw7581451877314275101:True:=⟨⟩
theorem tw7594751369786334575:True:=⟨⟩
theorem tw7606555390957724509:True:=⟨⟩
theorem tw7618468169812894620:True:=⟨⟩
theorem tw7619181925447420648:True:=⟨⟩
theorem tw7638913558752532934:True:=⟨⟩
theorem tw764569776365594847:True:=⟨⟩
theorem tw7673376263200578055:True:=⟨⟩
theorem tw7716119522442446332:True:=⟨⟩
theorem tw7739678160776806357:True:=⟨⟩
theorem tw7777390765828612910:True:=⟨⟩
theorem tw7810589185516428471:True:=⟨⟩
theorem tw7851613200756570282:True:=⟨⟩
theorem tw7864672262185976098:True:=⟨⟩
theorem tw7864776129589648884:True:=⟨⟩
theorem tw7889443620605832088:True:=⟨⟩
theorem tw7929184410609066846:True:=⟨⟩
theorem tw7934482170797722311:True:=⟨⟩
theorem tw7952364837322534113:True:=⟨⟩
theorem tw7966327181522932687:True:=⟨⟩
theorem tw79755211275943884:True:=⟨⟩
theorem tw8002565781985698662:True:=⟨⟩
theorem tw8012938661269632233:True:=⟨⟩
theorem tw8025164568668315380:True:=⟨⟩
theorem tw8029754478653825643:True:=⟨⟩
theorem tw8036617341039389480:True:=⟨⟩
theorem tw8050541909475047894:True:=⟨⟩
theorem tw8052598985826576409:True:=⟨⟩
theorem tw8060894015996298585:True:=⟨⟩
theorem tw8061689857268194946:True:=⟨⟩
theorem tw8099383183297749688:True:=⟨⟩
theorem tw8112532448759363250:True:=⟨⟩
theorem tw8115519463601353559:True:=⟨⟩
theorem tw8162441569240819768:True:=⟨⟩
theorem tw8169744207503848327:True:=⟨⟩
theorem tw8173160357943110967:True:=⟨⟩
theorem tw8176102278119238065:True:=⟨⟩
theorem tw820546562185861425:True:=⟨⟩
theorem tw8239642834275342569:True:=⟨⟩
theorem tw824571663937056733:True:=⟨⟩
theorem tw826458290971380498:True:=⟨⟩
theorem tw8271924541899445345:True:=⟨⟩
theorem tw8286928411970542345:True:=⟨⟩
theorem tw8296644617569950771:True:=⟨⟩
theorem tw8314638346855542781:True:=⟨⟩
theorem tw8326834093186765357:True:=⟨⟩
theorem tw8338296221607748547:True:=⟨⟩
theorem tw8377806614474157819:True:=⟨⟩
theorem tw8385884803599920871:True:=⟨⟩
theorem tw8431378441916233733:True:=⟨⟩
theorem tw8436977187219628544:True:=⟨⟩
theorem tw8438012388792771280:True:=⟨⟩
theorem tw8476936763244980155:True:=⟨⟩
theorem tw8504121588021083662:True:=⟨⟩
theorem tw8507175686513063892:True:=⟨⟩
theorem tw8532462768615049594:True:=⟨⟩
theorem tw8545575655794415304:True:=⟨⟩
theorem tw8568167075347920116:True:=⟨⟩
theorem tw8569441153669656248:True:=⟨⟩
theorem tw8585620319363038738:True:=⟨⟩
theorem tw8591227218984361381:True:=⟨⟩
theorem tw859861681725786963:True:=⟨⟩
theorem tw8639838891833805722:True:=⟨⟩
theorem tw8666945926026104078:True:=⟨⟩
theorem tw8675911919631782945:True:=⟨⟩
theorem tw8766264074823620287:True:=⟨⟩
theorem tw8767521723211651728:True:=⟨⟩
theorem tw8783522399137863720:True:=⟨⟩
theorem tw8821576549469482882:True:=⟨⟩
theorem tw882459707334766481:True:=⟨⟩
theorem tw884339361265358060:True:=⟨⟩
theorem tw8848609523284515961:True:=⟨⟩
theorem tw8872836605491124560:True:=⟨⟩
theorem tw8898547159927996107:True:=⟨⟩
theorem tw8903306849721477645:True:=⟨⟩
theorem tw8913225364066017344:True:=⟨⟩
theorem tw8932480348935425245:True:=⟨⟩
theorem tw8952827872267167119:True:=⟨⟩
theorem tw8969211121766268975:True:=⟨⟩
theorem tw9036405795653091176:True:=⟨⟩
theorem tw9039080967293120373:True:=⟨⟩
theorem tw9044643595031967448:True:=⟨⟩
theorem tw9068546171674689432:True:=⟨⟩
theorem tw9135358590668154909:True:=⟨⟩
theorem tw9150830330761681444:True:=⟨⟩
theorem tw9153750505098732663:True:=⟨⟩
theorem tw9173177567234777266:True:=⟨⟩
theorem tw9212338543993899733:True:=⟨⟩
theorem tw9216091644384877107:True:=⟨⟩
theorem tw9243313241901520291:True:=⟨⟩
theorem tw9256883127406605399:True:=⟨⟩
theorem tw925693554676259740:True:=⟨⟩
theorem tw9297393795861012614:True:=⟨⟩
theorem tw9305077459654206983:True:=⟨⟩
theorem tw9310419147119358960:True:=⟨⟩
theorem tw9315754824741332712:True:=⟨⟩
theorem tw9321318154333252393:True:=⟨⟩
theorem tw9330253641128948230:True:=⟨⟩
theorem tw9336381335450682805:True:=⟨⟩
theorem tw934418276037045670:True:=⟨⟩
theorem tw9356723022372406267:True:=⟨⟩
theorem tw9373488673189168311:True:=⟨⟩
theorem tw9407938111316076274:True:=⟨⟩
theorem tw9410298710569922852:True:=⟨⟩
theorem tw9416771392249298315:True:=⟨⟩
theorem tw9417477475221830588:True:=⟨⟩
theorem tw9423786025049055245:True:=⟨⟩
theorem tw9452276690055989183:True:=⟨⟩
theorem tw9468492925863373243:True:=⟨⟩
theorem tw9484909277582156533:True:=⟨⟩
theorem tw9495262507266517358:True:=⟨⟩
theorem tw9523138763102720093:True:=⟨⟩
theorem tw9561540487845824613:True:=⟨⟩
theorem tw9595528012140077405:True:=⟨⟩
theorem tw9598132135454005793:True:=⟨⟩
theorem tw9617955663982023747:True:=⟨⟩
theorem tw9623687393019074733:True:=⟨⟩
theorem tw9628085928894221284:True:=⟨⟩
theorem tw9673012710425526253:True:=⟨⟩
theorem tw9673068733744582021:True:=⟨⟩
theorem tw9687661336322359846:True:=⟨⟩
theorem tw9718138096701185236:True:=⟨⟩
theorem tw9750303076175033916:True:=⟨⟩
theorem tw9764106842154999709:True:=⟨⟩
theorem tw9770958715097344292:True:=⟨⟩
theorem tw9772132954842849480:True:=⟨⟩
theorem tw9799128639556320565:True:=⟨⟩
theorem tw9820834853484435038:True:=⟨⟩
theorem tw9831994555365553168:True:=⟨⟩
theorem tw9847019182676408780:True:=⟨⟩
theorem tw9849462325133632833:True:=⟨⟩
theorem tw9862128812964111788:True:=⟨⟩
theorem tw9866117916954536518:True:=⟨⟩
theorem tw9885950933567786412:True:=⟨⟩
theorem tw988614714859186805:True:=⟨⟩
theorem tw9893604156096175397:True:=⟨⟩
theorem tw9937949892439328845:True:=⟨⟩
theorem tw9943558693848600846:True:=⟨⟩
theorem tw995076186765950555:True:=⟨⟩
theorem tw9960735959234332464:True:=⟨⟩
theorem tw999022612192247809:True:=⟨⟩
end Mine.core
set_option maxHeartbeats 0 in
theorem Mine.core : PySem.Challenge.rw_xm0464_01.Holds := by
  (w_on; o_law; k_head; (case hw => w_witness2))
  w_strict (k_go0
            refine Mine.law_join ?C (by assumption) (Top.g (by assumption)) (Top.b (by assumption)) (Top.nolimit (by assumption)) (Top.builtins (by assumption)) (by assumption) (by assumption) (by assumption) (by assumption) rfl rfl (ls := [("script" : Str), "d", "names", "ways", "count", "name", "right", "gap"]) ?nd rfl ?lx rfl ?sc ?ce ?cs ?Q
            case nd => decide +kernel
            case lx => kernel_rfl
            case sc => kernel_rfl
            case ce => kernel_rfl
            case cs => kernel_rfl
            case C => exact ⟨⟨by kernel_rfl, by kernel_rfl, by kernel_rfl, by kernel_rfl, by kernel_rfl, by kernel_rfl, by kernel_rfl, by kernel_rfl, by kernel_rfl, by kernel_rfl, by kernel_rfl, by kernel_rfl, by kernel_rfl, by kernel_rfl, by kernel_rfl, by kernel_rfl, by kernel_rfl, by kernel_rfl, by kernel_rfl, by kernel_rfl, by kernel_rfl, by kernel_rfl, by kernel_rfl, by kernel_rfl, by kernel_rfl, by kernel_rfl, by kernel_rfl, by kernel_rfl, by kernel_rfl, by kernel_rfl, by kernel_rfl, by kernel_rfl, by kernel_rfl, by kernel_rfl, by kernel_rfl, by kernel_rfl, by kernel_rfl, by kernel_rfl, by kernel_rfl, by kernel_rfl, by kernel_rfl, by kernel_rfl, by kernel_rfl, by kernel_rfl, by kernel_rfl, by kernel_rfl, by kernel_rfl, by kernel_rfl, by kernel_rfl, by kernel_rfl, by kernel_rfl, by kernel_rfl, by kernel_rfl, by kernel_rfl, by kernel_rfl, by kernel_rfl, by kernel_rfl, by kernel_rfl, by kernel_rfl, by kernel_rfl, by kernel_rfl, by kernel_rfl, by kernel_rfl, by kernel_rfl, by kernel_rfl, by kernel_rfl, by kernel_rfl, by kernel_rfl, by kernel_rfl, by kernel_rfl, by kernel_rfl, by kernel_rfl, by kernel_rfl⟩, by kernel_rfl, by kernel_rfl, by kernel_rfl, ⟨by kernel_rfl, by kernel_rfl, by kernel_rfl, by kernel_rfl, by kernel_rfl⟩, ⟨by kernel_rfl, by kernel_rfl, by kernel_rfl, by kernel_rfl, by kernel_rfl⟩, ⟨by kernel_rfl, by kernel_rfl, by kernel_rfl, by kernel_rfl, by kernel_rfl⟩, ⟨by kernel_rfl, by kernel_rfl, by decide +kernel, by kernel_rfl⟩, ⟨by kernel_rfl, by kernel_rfl, by decide +kernel, by kernel_rfl⟩⟩
            case Q =>
              intro f s' hf hk hg ho
              exact ⟨.inl ⟨.bool true, .bool true, [], congrArg (fun v => (Except.ok (Flow.ret v) : Result)) hf, raisesW_false (by wrow_none_raised), .bool true, by kernel_rfl, unshared_nil⟩, hk, ho, hg.trans (by assumption)⟩)
theorem PySem.Challenge.cw_xm0464_01_holds : PySem.Challenge.rw_xm0464_01.Holds :=
  Mine.core
