import PyProof.Rows.All
import Wide.All
import OpenK.AllK
import Wide.FinOn
import PySem.Challenge.RW_tk0120_01

set_option Elab.async false
set_option linter.unusedVariables false
set_option linter.unusedSectionVars false
set_option linter.unusedSimpArgs false
set_option genSizeOf false
set_option genInjectivity false
set_option maxRecDepth 100000
set_option maxHeartbeats 4000000

namespace Tk
open PySem

/-- values of the small interpreter -/
inductive AV where
  | int (i : Int) | bool (b : Bool) | none | bytes (l : List Int) | lab (n : Nat) | script | prices
/-- its objects -/
inductive AO where
  | list (l : List Int) | barr (l : List Int) | inst (c : Nat) (d : Nat) | dict (fs : List (Nat × AV))
noncomputable abbrev St := List AO
noncomputable abbrev En := Nat → Option AV
noncomputable def upd (η : En) (i : Nat) (v : AV) : En := fun j => if j = i then some v else η j
noncomputable def upds (η : En) : List Nat → List AV → En
  | i :: is, v :: vs => upds (upd η i v) is vs
  | _, _ => η

inductive Op where
  | add | sub | mul | fdiv | mod | shl | shr | band | bor | pow
inductive Co where
  | eq | ne | lt | le | gt | ge
inductive B1 where
  | len | abs | sorted | sum | int | bytes | max | bitlen | isint
mutual
inductive E where
  | int (i : Int) | bool (b : Bool) | none
  | var (i : Nat)
  | glob (k : Int)
  | bin (o : Op) (a b : E)
  | neg (a : E)
  | not (a : E)
  | chain (a : E) (c : Cs)
  | isNone (a : E)
  | isin (neg : Bool) (a : E) (b : Es)
  | inl (a b : E)
  | and (es : Es)
  | or (es : Es)
  | ite (c a b : E)
  | call (f : Nat) (args : Es)
  | meth (o : E) (m : Nat) (args : Es)
  | attr (o : E) (a : Nat)
  | prices
  | sub (a b : E)
  | upto (a b : E)
  | from (a b : E)
  | rev (a : E)
  | every (a : E) (k : Nat)
  | list (es : Es)
  | comp (elt : E) (j : Nat) (cap : List Nat) (it : It)
  | b1 (f : B1) (a : E)
  | max2 (a b : E)
  | barr0
inductive Es where
  | nil | cons (e : E) (r : Es)
inductive Cs where
  | one (o : Co) (e : E) | more (o : Co) (e : E) (r : Cs)
inductive It where
  | range (e : E) | range3 (a b c : E) | elems (e : E)
end
mutual
inductive S where
  | asg (i : Nat) (e : E)
  | asgs (is : List Nat) (es : Es)
  | asgIf (is : List Nat) (c : E) (a b : Es)
  | asgComp (i : Nat) (e : E)
  | setItem (o i v : E)
  | setAttr (o : E) (a : Nat) (v : E)
  | aug (i : Nat) (o : Op) (e : E)
  | augAttr (ob : E) (a : Nat) (o : Op) (e : E)
  | iff (c : E) (a b : Ss)
  | for_ (i : Nat) (it : It) (body : Ss)
  | forEnum (i j : Nat) (e : E) (body : Ss)
  | ret (e : E)
  | append (ob v : E)
  | extend (ob v : E)
  | exp (e : E)
  | raise
inductive Ss where
  | nil | cons (s : S) (r : Ss)
end
inductive Fl where
  | next | ret (v : AV)

noncomputable def lineOf : Nat := 1048576
noncomputable def intBin : Op → Int → Int → Option Int
  | .add, a, b => some (a + b)
  | .sub, a, b => some (a - b)
  | .mul, a, b => if a.natAbs < 2 ^ 64 ∨ b.natAbs < 2 ^ 64 then some (a * b) else none
  | .fdiv, a, b => if b ≠ 0 ∧ b.natAbs < 1048576 then some (a.fdiv b) else none
  | .mod, a, b => if b = 0 then none else some (a.fmod b)
  | .shl, a, b => if 0 ≤ b ∧ b ≤ 1000 ∧ a.natAbs < 2 ^ 64 then some (a * 2 ^ b.toNat) else none
  | .shr, a, b => if 0 ≤ b then some (a.fdiv (2 ^ b.toNat)) else none
  | .band, a, b => some (Builtin.bitAnd a b)
  | .bor, a, b => some (Builtin.bitOr a b)
  | .pow, a, b => if 0 ≤ b ∧ b ≤ 1000 ∧ a.natAbs < 2 ^ 64 then some (a ^ b.toNat) else none
noncomputable def newL (σ : St) (l : List Int) : Option (AV × St) := if l.length ≤ lineOf then some (.lab σ.length, σ ++ [.list l]) else none
noncomputable def binv (o : Op) (x y : AV) (σ : St) : Option (AV × St) :=
  match o, x, y with
  | o, .int a, .int b => (intBin o a b).map fun c => (.int c, σ)
  | .add, .lab m, .lab n => match σ[m]?, σ[n]? with
    | some (.list xs), some (.list ys) => newL σ (xs ++ ys)
    | _, _ => none
  | .mul, .lab m, .int k => match σ[m]? with
    | some (.list xs) => if xs.length ≤ 1000 ∧ -1000 ≤ k ∧ k ≤ 1000 then newL σ (List.replicate k.toNat xs).flatten else none
    | _ => none
  | .mul, .bytes l, .int k => if l ≠ [] ∧ l.length ≤ 16 ∧ -1000 ≤ k ∧ k ≤ 1000 then some (.bytes (List.replicate k.toNat l).flatten, σ) else none
  | _, _, _ => none
noncomputable def intCmp : Co → Int → Int → Bool
  | .eq, a, b => a == b
  | .ne, a, b => a != b
  | .lt, a, b => decide (a < b)
  | .le, a, b => decide (a ≤ b)
  | .gt, a, b => decide (b < a)
  | .ge, a, b => decide (b ≤ a)
noncomputable def eqCmp (o : Co) (xs ys : List Int) : Option Bool := match o with
  | .eq => some (xs == ys)
  | .ne => some (xs != ys)
  | _ => none
noncomputable def cmpv (o : Co) (x y : AV) (σ : St) : Option Bool :=
  match x, y with
  | .int a, .int b => some (intCmp o a b)
  | .bytes a, .bytes b => eqCmp o a b
  | .lab m, .lab n => match σ[m]?, σ[n]? with
    | some (.list xs), some (.list ys) => eqCmp o xs ys
    | _, _ => none
  | _, _ => none
noncomputable def bitLen (i : Int) : Int := Builtin.Int.intBits i
noncomputable def isOctets (l : List Int) : Bool := l.all fun i => decide (0 ≤ i) && decide (i < 256)
noncomputable def b1v (N : List Int) (f : B1) (x : AV) (σ : St) : Option (AV × St) :=
  match f, x with
  | .len, .lab n => match σ[n]? with
    | some (.list xs) => if xs.length ≤ lineOf then some (.int xs.length, σ) else none
    | _ => none
  | .len, .script => if N.length ≤ lineOf then some (.int N.length, σ) else none
  | .len, .bytes l => if l.length ≤ lineOf then some (.int l.length, σ) else none
  | .abs, .int i => some (.int i.natAbs, σ)
  | .sorted, .lab n => match σ[n]? with
    | some (.list xs) => if xs.length < 64 then newL σ (xs.mergeSort fun a b => decide (a ≤ b)) else none
    | _ => none
  | .sum, .lab n => match σ[n]? with
    | some (.list xs) => some (.int xs.sum, σ)
    | _ => none
  | .int, .bool b => some (.int (if b then 1 else 0), σ)
  | .bytes, .lab n => match σ[n]? with
    | some (.list xs) => if isOctets xs ∧ xs.length ≤ lineOf then some (.bytes xs, σ) else none
    | some (.barr xs) => if xs.length ≤ lineOf then some (.bytes xs, σ) else none
    | _ => none
  | .bytes, .bytes l => some (.bytes l, σ)
  | .max, .lab n => match σ[n]? with
    | some (.list (x :: xs)) => some (.int (xs.foldl max x), σ)
    | _ => none
  | .bitlen, .int i => some (.int (bitLen i), σ)
  | .isint, .int _ => some (.bool true, σ)
  | _, _ => none
/-- an item at an index (negative ones count from the end) -/
noncomputable def itemAt (xs : List Int) (i : Int) : Option Int := if lineOf < xs.length then none else if 0 ≤ i then xs[i.toNat]? else if -xs.length ≤ i then xs[(i + xs.length).toNat]? else none
noncomputable def subv (pr : List Int) (x y : AV) (σ : St) : Option (AV × St) :=
  match x, y with
  | .lab n, .int i => match σ[n]? with
    | some (.list xs) => (itemAt xs i).map fun v => (.int v, σ)
    | _ => none
  | .bytes l, .int i => if 0 ≤ i ∧ l.length ≤ lineOf then (l[i.toNat]?).map fun v => (.int v, σ) else none
  | .prices, .int i => if 0 ≤ i then (pr[i.toNat]?).map fun v => (.int v, σ) else none
  | _, _ => none
noncomputable def everyL (k : Nat) (xs : List Int) : List Int := (List.range ((xs.length + k - 1) / k)).filterMap fun i => xs[k * i]?
noncomputable def listOf (N : List Int) (x : AV) (σ : St) : Option (List Int) :=
  match x with
  | .lab n => match σ[n]? with
    | some (.list xs) => some xs
    | _ => none
  | .script => some N
  | _ => none
noncomputable def cutv (N : List Int) (x : AV) (σ : St) (f : List Int → List Int) : Option (AV × St) := (listOf N x σ).bind fun xs => if xs.length ≤ lineOf then newL σ (f xs) else none
noncomputable def intsOf : List AV → Option (List Int)
  | [] => some []
  | .int i :: r => (intsOf r).map (i :: ·)
  | _ => none
noncomputable def attrOf (σ : St) (x : AV) (a : Nat) : Option AV := match x with
  | .lab n => match σ[n]? with
    | some (.inst _ d) => match σ[d]? with
      | some (.dict fs) => fs.lookup a
      | _ => none
    | _ => none
  | _ => none
/-- the function behind a method of a class -/
noncomputable def methL : List (Nat × Nat × Nat) := [(192, 0, 133), (192, 1, 154), (192, 2, 161), (192, 3, 168), (276, 4, 217), (276, 2, 224), (276, 5, 231), (276, 3, 238), (276, 6, 273)]
noncomputable def methFn (c m : Nat) : Option Nat := (methL.find? fun x => x.1 == c && x.2.1 == m).map fun x => x.2.2
noncomputable def clsOf (σ : St) (x : AV) : Option Nat := match x with
  | .lab n => match σ[n]? with
    | some (.inst c d) => match σ[d]? with
      | some (.dict _) => some c
      | _ => none
    | _ => none
  | _ => none
noncomputable abbrev Orc := Nat → List AV → St → Option (AV × St)
noncomputable def isL (σ : St) (o : Option Nat) (l : List Int) : Bool := match o with
  | none => true
  | some n => match σ[n]? with
    | some (.list l') => l' == l
    | _ => false
noncomputable def rangeL (a b c : Int) : Option (List Int) :=
  if c = -1 ∧ a.natAbs < 1000000 ∧ b.natAbs < 1000000 then some ((List.range (a - b).toNat).map fun (k : Nat) => a - k) else none
noncomputable def compGo (elt : AV → St → Option (AV × St)) (n : Nat) (ok : St → Bool) : List Int → St → Option St
  | [], σ => if ok σ then some σ else none
  | x :: r, σ => if ok σ then match elt (.int x) σ with
      | some (.int v, σ') => match σ'[n]? with
        | some (.list acc) => if acc.length ≤ lineOf then compGo elt n ok r (σ'.set n (.list (acc ++ [v]))) else none
        | _ => none
      | _ => none
    else none
section
variable (O : Orc) (N pr : List Int)
mutual
noncomputable def ev : E → En → St → Option (AV × St)
  | .int i, _, σ => some (.int i, σ)
  | .bool b, _, σ => some (.bool b, σ)
  | .none, _, σ => some (.none, σ)
  | .var i, η, σ => (η i).map fun v => (v, σ)
  | .glob k, _, σ => some (.int k, σ)
  | .bin o a b, η, σ => (ev a η σ).bind fun x => (ev b η x.2).bind fun y => binv o x.1 y.1 y.2
  | .neg a, η, σ => (ev a η σ).bind fun x => match x.1 with
    | .int i => some (.int (-i), x.2)
    | _ => none
  | .not a, η, σ => (ev a η σ).bind fun x => match x.1 with
    | .bool b => some (.bool (!b), x.2)
    | _ => none
  | .chain a c, η, σ => (ev a η σ).bind fun x => evc c x.1 η x.2
  | .isNone a, η, σ => (ev a η σ).bind fun x => match x.1 with
    | .none => some (.bool true, x.2)
    | .int _ => some (.bool false, x.2)
    | _ => none
  | .isin neg a b, η, σ => (ev a η σ).bind fun x => (evs b η x.2).bind fun y => match x.1, intsOf y.1 with
    | .int i, some l => if y.1.length ≤ 100 then some (.bool (neg != l.contains i), y.2) else none
    | _, _ => none
  | .inl a b, η, σ => (ev a η σ).bind fun x => (ev b η x.2).bind fun y => match x.1, y.1 with
    | .int i, .lab n => match y.2[n]? with
      | some (.list l) => some (.bool (l.contains i), y.2)
      | _ => none
    | _, _ => none
  | .and es, η, σ => evb true es η σ
  | .or es, η, σ => evb false es η σ
  | .ite c a b, η, σ => (ev c η σ).bind fun x => match x.1 with
    | .bool true => ev a η x.2
    | .bool false => ev b η x.2
    | _ => none
  | .call f args, η, σ => (evs args η σ).bind fun x => O f x.1 x.2
  | .meth o m args, η, σ => (ev o η σ).bind fun x => match (clsOf x.2 x.1).bind (methFn · m) with
    | some f => (evs args η x.2).bind fun y => O f (x.1 :: y.1) y.2
    | none => none
  | .attr o a, η, σ => (ev o η σ).bind fun x => (attrOf x.2 x.1 a).map fun v => (v, x.2)
  | .prices, _, σ => some (.prices, σ)
  | .sub a b, η, σ => (ev a η σ).bind fun x => (ev b η x.2).bind fun y => subv pr x.1 y.1 y.2
  | .upto a b, η, σ => (ev a η σ).bind fun x => (ev b η x.2).bind fun y => match y.1 with
    | .int i => if 0 ≤ i then cutv N x.1 y.2 (·.take i.toNat) else none
    | _ => none
  | .from a b, η, σ => (ev a η σ).bind fun x => (ev b η x.2).bind fun y => match y.1 with
    | .int i => if 0 ≤ i then cutv N x.1 y.2 (·.drop i.toNat) else none
    | _ => none
  | .rev a, η, σ => (ev a η σ).bind fun x => cutv N x.1 x.2 List.reverse
  | .every a k, η, σ => (ev a η σ).bind fun x => cutv N x.1 x.2 (everyL k)
  | .list es, η, σ => (evs es η σ).bind fun x => (intsOf x.1).bind fun l => newL x.2 l
  | .comp elt j cap it, η, σ => (evi it η σ).bind fun x =>
    let n := x.2.2.length
    (compGo (fun v τ => ev elt (upd (fun i => if cap.contains i then η i else none) j v) τ) n (fun τ => isL τ x.2.1 x.1) x.1 (x.2.2 ++ [.list []])).map fun τ => (.lab n, τ)
  | .b1 f a, η, σ => (ev a η σ).bind fun x => b1v N f x.1 x.2
  | .max2 a b, η, σ => (ev a η σ).bind fun x => (ev b η x.2).bind fun y => match x.1, y.1 with
    | .int i, .int j => some (.int (if j > i then j else i), y.2)
    | _, _ => none
  | .barr0, _, σ => some (.lab σ.length, σ ++ [.barr []])
noncomputable def evs : Es → En → St → Option (List AV × St)
  | .nil, _, σ => some ([], σ)
  | .cons e r, η, σ => (ev e η σ).bind fun x => (evs r η x.2).map fun y => (x.1 :: y.1, y.2)
noncomputable def evc : Cs → AV → En → St → Option (AV × St)
  | .one o e, x, η, σ => (ev e η σ).bind fun y => (cmpv o x y.1 y.2).map fun b => (.bool b, y.2)
  | .more o e r, x, η, σ => (ev e η σ).bind fun y => (cmpv o x y.1 y.2).bind fun b => if b then evc r y.1 η y.2 else some (.bool false, y.2)
/-- and (k = true), or (k = false): the items are bools -/
noncomputable def evb (k : Bool) : Es → En → St → Option (AV × St)
  | .nil, _, σ => some (.bool k, σ)
  | .cons e r, η, σ => (ev e η σ).bind fun x => match x.1 with
    | .bool b => if b = k then evb k r η x.2 else some (.bool b, x.2)
    | _ => none
noncomputable def evi : It → En → St → Option (List Int × Option Nat × St)
  | .range e, η, σ => (ev e η σ).bind fun x => match x.1 with
    | .int n => if n.natAbs < 1000000 then some ((List.range n.toNat).map fun (k : Nat) => (k : Int), none, x.2) else none
    | _ => none
  | .range3 a b c, η, σ => (ev a η σ).bind fun x => (ev b η x.2).bind fun y => (ev c η y.2).bind fun z => match x.1, y.1, z.1 with
    | .int i, .int j, .int k => (rangeL i j k).map fun l => (l, none, z.2)
    | _, _, _ => none
  | .elems e, η, σ => (ev e η σ).bind fun x => match x.1 with
    | .lab n => match x.2[n]? with
      | some (.list l) => some (l, some n, x.2)
      | _ => none
    | _ => none
end
noncomputable def loopGo (b : En → St → Option (Fl × En × St)) (set : Int → Nat → En → En) (ok : St → Bool) : List Int → Nat → En → St → Option (Fl × En × St)
  | [], _, η, σ => if ok σ then some (.next, η, σ) else none
  | x :: r, k, η, σ => if ok σ then match b (set x k η) σ with
      | some (.next, η', σ') => loopGo b set ok r (k + 1) η' σ'
      | some (.ret v, η', σ') => some (.ret v, η', σ')
      | none => none
    else none
noncomputable def putItem (σ : St) (x : AV) (i : Int) (v : Int) : Option St := match x with
  | .lab n => match σ[n]? with
    | some (.list xs) => if 0 ≤ i ∧ i < xs.length ∧ xs.length ≤ lineOf then some (σ.set n (.list (xs.set i.toNat v))) else none
    | _ => none
  | _ => none
noncomputable def putFld (fs : List (Nat × AV)) (a : Nat) (v : AV) : List (Nat × AV) := match fs with
  | [] => [(a, v)]
  | (b, w) :: r => if b = a then (b, v) :: r else (b, w) :: putFld r a v
noncomputable def putAttr (σ : St) (x : AV) (a : Nat) (v : AV) : Option St := match x with
  | .lab n => match σ[n]? with
    | some (.inst _ d) => match σ[d]? with
      | some (.dict fs) => if fs.length ≤ 100 then some (σ.set d (.dict (putFld fs a v))) else none
      | _ => none
    | _ => none
  | _ => none
noncomputable def appendv (σ : St) (x v : AV) : Option St := match x, v with
  | .lab n, .int i => match σ[n]? with
    | some (.list xs) => if xs.length ≤ lineOf then some (σ.set n (.list (xs ++ [i]))) else none
    | some (.barr xs) => if xs.length ≤ lineOf ∧ 0 ≤ i ∧ i < 256 then some (σ.set n (.barr (xs ++ [i]))) else none
    | _ => none
  | _, _ => none
noncomputable def kindL (σ : St) (x : AV) : Nat := match x with
  | .lab n => match σ[n]? with
    | some (.list _) => 1
    | some (.barr _) => 2
    | _ => 0
  | _ => 0
noncomputable def extendv (σ : St) (x v : AV) : Option St := match x, v with
  | .lab n, .bytes l => match σ[n]? with
    | some (.barr xs) => if xs.length ≤ lineOf ∧ l.length ≤ lineOf then some (σ.set n (.barr (xs ++ l))) else none
    | _ => none
  | _, _ => none
mutual
noncomputable def ex : S → En → St → Option (Fl × En × St)
  | .asg i e, η, σ => (ev O N pr e η σ).map fun x => (.next, upd η i x.1, x.2)
  | .asgComp i e, η, σ => (ev O N pr e η σ).map fun x => (.next, upd η i x.1, x.2)
  | .asgs is es, η, σ => (evs O N pr es η σ).map fun x => (.next, upds η is x.1, x.2)
  | .asgIf is c a b, η, σ => (ev O N pr c η σ).bind fun x => match x.1 with
    | .bool true => (evs O N pr a η x.2).map fun y => (.next, upds η is y.1, y.2)
    | .bool false => (evs O N pr b η x.2).map fun y => (.next, upds η is y.1, y.2)
    | _ => none
  | .setItem o i v, η, σ => (ev O N pr v η σ).bind fun x => (ev O N pr o η x.2).bind fun y => (ev O N pr i η y.2).bind fun z => match x.1, z.1 with
    | .int v, .int i => (putItem z.2 y.1 i v).map fun τ => (.next, η, τ)
    | _, _ => none
  | .setAttr o a v, η, σ => (ev O N pr v η σ).bind fun x => (ev O N pr o η x.2).bind fun y => (putAttr y.2 y.1 a x.1).map fun τ => (.next, η, τ)
  | .aug i o e, η, σ => (η i).bind fun x => (ev O N pr e η σ).bind fun y => match x, y.1 with
    | .int a, .int b => (intBin o a b).map fun c => (.next, upd η i (.int c), y.2)
    | _, _ => none
  | .augAttr ob a o e, η, σ => (ev O N pr ob η σ).bind fun x => (attrOf x.2 x.1 a).bind fun w => (ev O N pr e η x.2).bind fun y => match w, y.1 with
    | .int i, .int j => (intBin o i j).bind fun c => (putAttr y.2 x.1 a (.int c)).map fun τ => (.next, η, τ)
    | _, _ => none
  | .iff c a b, η, σ => (ev O N pr c η σ).bind fun x => match x.1 with
    | .bool true => exs a η x.2
    | .bool false => exs b η x.2
    | _ => none
  | .for_ i it body, η, σ => (evi O N pr it η σ).bind fun x => loopGo (fun η τ => exs body η τ) (fun v _ η => upd η i (.int v)) (fun τ => isL τ x.2.1 x.1) x.1 0 η x.2.2
  | .forEnum i j e body, η, σ => (ev O N pr e η σ).bind fun x => match x.1 with
    | .lab n => match x.2[n]? with
      | some (.list l) => loopGo (fun η τ => exs body η τ) (fun v k η => upd (upd η i (.int k)) j (.int v)) (fun τ => isL τ (some n) l) l 0 η x.2
      | _ => none
    | _ => none
  | .ret e, η, σ => (ev O N pr e η σ).map fun x => (.ret x.1, η, x.2)
  | .append ob v, η, σ => (ev O N pr ob η σ).bind fun x => (ev O N pr v η x.2).bind fun y => if kindL x.2 x.1 = kindL y.2 x.1 then (appendv y.2 x.1 y.1).map fun τ => (.next, η, τ) else none
  | .extend ob v, η, σ => (ev O N pr ob η σ).bind fun x => (ev O N pr v η x.2).bind fun y => if kindL x.2 x.1 = kindL y.2 x.1 then (extendv y.2 x.1 y.1).map fun τ => (.next, η, τ) else none
  | .exp e, η, σ => (ev O N pr e η σ).bind fun x => match x.1 with
    | .none => some (.next, η, x.2)
    | _ => none
  | .raise, _, _ => none
noncomputable def exs : Ss → En → St → Option (Fl × En × St)
  | .nil, η, σ => some (.next, η, σ)
  | .cons s r, η, σ => (ex s η σ).bind fun x => match x.1 with
    | .next => exs r x.2.1 x.2.2
    | .ret v => some (.ret v, x.2)
end
end
end Tk

namespace Tk
open PySem

noncomputable def gints : List (Str × Int) := [("MODEL_BITS", 11), ("TOTAL", 2048), ("LEARN", 5), ("LEAST_MODEL", 31), ("LEAST_SPAN", 16777216), ("MOST_SPAN", 4294967295), ("CARRY", 4294967296),
  ("MAY_CARRY", 4278190080), ("FLUSHED", 5), ("PRICE_STEPS", 4), ("BIT_PRICE", 16), ("CELL_BITS", 4)]
noncomputable def gfuns : List (Nat × Str) := [(97, "next_model"), (104, "need_model"), (111, "need_bit"), (192, "RangeReader"), (276, "RangeWriter"), (287, "price_of"), (3521, "bit_price"), (3528, "exact_price"),
  (3535, "_law_jar"), (3542, "_law_take"), (3549, "_law_models"), (3554, "_law_bits"), (3561, "_law_turns"), (3568, "_law_led"), (3575, "_law_gap_right"), (3582, "_law_order_right"),
  (3587, "_law_run_right"), (3592, "_law_coder_right")]
noncomputable def attrNames : List Str := ["data", "stop", "start", "place", "span", "code", "made", "low", "cache", "held", "closed"]
noncomputable def methNames : List Str := ["octet", "ended", "fill", "bit", "shift", "need_open", "done"]

noncomputable def opIs : Op → Operator → Bool
  | .add, .Add | .sub, .Sub | .mul, .Mult | .fdiv, .FloorDiv | .mod, .Mod | .shl, .LShift | .shr, .RShift | .band, .BitAnd | .bor, .BitOr | .pow, .Pow => true
  | _, _ => false
noncomputable def coIs : Co → CmpOp → Bool
  | .eq, .Eq | .ne, .NotEq | .lt, .Lt | .le, .LtE | .gt, .Gt | .ge, .GtE => true
  | _, _ => false
noncomputable def b1Name : B1 → Str
  | .len => "len" | .abs => "abs" | .sorted => "sorted" | .sum => "sum" | .int => "int" | .bytes => "bytes" | .max => "max" | .bitlen => "" | .isint => ""
noncomputable def isVar (nm : List Str) (sc : Scope) (i : Nat) (x : Str) : Bool := nm[i]? == some x && (sc.names.lookup x == some .local || sc.names.lookup x == some .cell) && !(x == ("__debug__" : Str))
noncomputable def isGlob (sc : Scope) (x : Str) : Bool := sc.names.lookup x == some .globalImplicit && !(x == ("__debug__" : Str))
/-- the object of an attribute or a method: a plain name or an attribute of one -/
noncomputable def plainBase : Expr → Bool
  | .Name _ _ => true
  | .Attribute (.Name _ _) _ _ => true
  | _ => false
/-- what the block of a comprehension sees -/
noncomputable def seenIn (sc scope : Scope) : Scope := { scope with names := scope.names.map fun x => if x.2 == .free && sc.kind == .function && sc.names.lookup x.1 == some .cell then (x.1, .cell) else (x.1, x.2) }
noncomputable def isEmptyL {α : Type} : List α → Bool
  | [] => true
  | _ => false
/-! views -/
noncomputable def vName (e : Expr) : Option (Str × Pos) := if h : e.ctorIdx = 23 then some (Expr.Name.elim (motive_1 := fun _ => Str × Pos) e h fun a b => (a, b)) else none
noncomputable def vBin (e : Expr) : Option (Expr × Operator × Expr × Pos) := if h : e.ctorIdx = 2 then some (Expr.BinOp.elim (motive_1 := fun _ => Expr × Operator × Expr × Pos) e h fun a b c d => (a, b, c, d)) else none
noncomputable def vUn (e : Expr) : Option (UnaryOp × Expr × Pos) := if h : e.ctorIdx = 3 then some (Expr.UnaryOp.elim (motive_1 := fun _ => UnaryOp × Expr × Pos) e h fun a b c => (a, b, c)) else none
noncomputable def vBo (e : Expr) : Option (BoolOp × List Expr × Pos) := if h : e.ctorIdx = 0 then some (Expr.BoolOp.elim (motive_1 := fun _ => BoolOp × List Expr × Pos) e h fun a b c => (a, b, c)) else none
noncomputable def vCmp (e : Expr) : Option (Expr × List CmpOp × List Expr × Pos) := if h : e.ctorIdx = 15 then some (Expr.Compare.elim (motive_1 := fun _ => Expr × List CmpOp × List Expr × Pos) e h fun a b c d => (a, b, c, d)) else none
noncomputable def vIf (e : Expr) : Option (Expr × Expr × Expr × Pos) := if h : e.ctorIdx = 5 then some (Expr.IfExp.elim (motive_1 := fun _ => Expr × Expr × Expr × Pos) e h fun a b c d => (a, b, c, d)) else none
noncomputable def vCall (e : Expr) : Option (Expr × List Expr × List Keyword × Pos) := if h : e.ctorIdx = 16 then some (Expr.Call.elim (motive_1 := fun _ => Expr × List Expr × List Keyword × Pos) e h fun a b c d => (a, b, c, d)) else none
noncomputable def vAttr (e : Expr) : Option (Expr × Str × Pos) := if h : e.ctorIdx = 20 then some (Expr.Attribute.elim (motive_1 := fun _ => Expr × Str × Pos) e h fun a b c => (a, b, c)) else none
noncomputable def vSub (e : Expr) : Option (Expr × Expr × Pos) := if h : e.ctorIdx = 21 then some (Expr.Subscript.elim (motive_1 := fun _ => Expr × Expr × Pos) e h fun a b c => (a, b, c)) else none
noncomputable def vSlice (e : Expr) : Option (Option Expr × Option Expr × Option Expr × Pos) := if h : e.ctorIdx = 26 then some (Expr.Slice.elim (motive_1 := fun _ => Option Expr × Option Expr × Option Expr × Pos) e h fun a b c d => (a, b, c, d)) else none
noncomputable def vTup (e : Expr) : Option (List Expr × Nat × Pos) := if h : e.ctorIdx = 25 then some (Expr.Tuple.elim (motive_1 := fun _ => List Expr × Nat × Pos) e h fun a b c => (a, b, c)) else none
noncomputable def vList (e : Expr) : Option (List Expr × Pos) := if h : e.ctorIdx = 24 then some (Expr.List.elim (motive_1 := fun _ => List Expr × Pos) e h fun a b => (a, b)) else none
noncomputable def vLC (e : Expr) : Option (Expr × List Comprehension × Scope × Pos) := if h : e.ctorIdx = 8 then some (Expr.ListComp.elim (motive_1 := fun _ => Expr × List Comprehension × Scope × Pos) e h fun a b c d => (a, b, c, d)) else none
noncomputable def vCon (e : Expr) : Option (Const × Nat × Pos) := if h : e.ctorIdx = 19 then some (Expr.Constant.elim (motive_1 := fun _ => Const × Nat × Pos) e h fun a b c => (a, b, c)) else none
noncomputable def vAsg (e : Stmt) : Option (List Expr × Expr × Pos) := if h : e.ctorIdx = 5 then some (Stmt.Assign.elim (motive_2 := fun _ => List Expr × Expr × Pos) e h fun a b c => (a, b, c)) else none
noncomputable def vAug (e : Stmt) : Option (Expr × Operator × Expr × Pos) := if h : e.ctorIdx = 7 then some (Stmt.AugAssign.elim (motive_2 := fun _ => Expr × Operator × Expr × Pos) e h fun a b c d => (a, b, c, d)) else none
noncomputable def vFor (e : Stmt) : Option (Expr × Expr × List Stmt × List Stmt × Pos) := if h : e.ctorIdx = 9 then some (Stmt.For.elim (motive_2 := fun _ => Expr × Expr × List Stmt × List Stmt × Pos) e h fun a b c d e => (a, b, c, d, e)) else none
noncomputable def vIfS (e : Stmt) : Option (Expr × List Stmt × List Stmt × Pos) := if h : e.ctorIdx = 12 then some (Stmt.If.elim (motive_2 := fun _ => Expr × List Stmt × List Stmt × Pos) e h fun a b c d => (a, b, c, d)) else none
noncomputable def vRet (e : Stmt) : Option (Option Expr × Pos) := if h : e.ctorIdx = 3 then some (Stmt.Return.elim (motive_2 := fun _ => Option Expr × Pos) e h fun a b => (a, b)) else none
noncomputable def vExp (e : Stmt) : Option (Expr × Pos) := if h : e.ctorIdx = 24 then some (Stmt.Expr.elim (motive_2 := fun _ => Expr × Pos) e h fun a b => (a, b)) else none
noncomputable def cInt : Const → Option Int | .int i => some i | _ => none
noncomputable def cBool : Const → Option Bool | .bool i => some i | _ => none
noncomputable def cNone : Const → Bool | .none => true | _ => false
noncomputable def vInt (e : Expr) : Option (Int × Nat × Pos) := (vCon e).bind fun x => (cInt x.1).map fun i => (i, x.2)
noncomputable def vBoolC (e : Expr) : Option (Bool × Nat × Pos) := (vCon e).bind fun x => (cBool x.1).map fun i => (i, x.2)
noncomputable def vNone (e : Expr) : Option (Nat × Pos) := (vCon e).bind fun x => if cNone x.1 = true then some x.2 else none
noncomputable def notStar : Expr → Bool | .Starred .. => false | _ => true
noncomputable def notSet : Expr → Bool | .Set .. => false | _ => true
noncomputable def vRaise : Stmt → Bool | .Raise .. => true | _ => false
noncomputable def uncons {α : Type} : List α → Option (α × List α) | x :: r => some (x, r) | [] => none
noncomputable def one {α : Type} (l : List α) : Option α := (uncons l).bind fun x => if isEmptyL x.2 then some x.1 else none
noncomputable def two {α : Type} (l : List α) : Option (α × α) := (uncons l).bind fun x => (one x.2).map fun y => (x.1, y)
section
variable (nm : List Str)
mutual
noncomputable def chk (sc : Scope) : E → Expr → Bool
  | .int i, e => (vInt e).any fun x => i == x.1
  | .bool b, e => (vBoolC e).any fun x => b == x.1
  | .none, e => (vNone e).isSome
  | .var i, e => (vName e).any fun x => isVar nm sc i x.1
  | .glob k, e => (vName e).any fun x => isGlob sc x.1 && gints.lookup x.1 == some k
  | .bin o a b, e => (vBin e).any fun x => opIs o x.2.1 && chk sc a x.1 && chk sc b x.2.2.1
  | .neg a, e => (vUn e).any fun x => x.1 == .USub && chk sc a x.2.1
  | .not a, e => (vUn e).any fun x => x.1 == .Not && chk sc a x.2.1
  | .chain a c, e => (vCmp e).any fun x => chk sc a x.1 && chkc sc c x.2.1 x.2.2.1
  | .isNone a, e => (vCmp e).any fun x => (one x.2.1).any fun o => (one x.2.2.1).any fun y => o == .Is && (vNone y).isSome && chk sc a x.1
  | .isin neg a b, e => (vCmp e).any fun x => (one x.2.1).any fun op => (one x.2.2.1).any fun y => (vTup y).any fun t => (op == if neg then .NotIn else .In) && chk sc a x.1 && chks sc b t.1
  | .inl a b, e => (vCmp e).any fun x => (one x.2.1).any fun op => (one x.2.2.1).any fun y => op == .In && (vSub y).isSome && (chk sc a x.1 && chk sc b y)
  | .and es, e => (vBo e).any fun x => x.1 == .And && (chks sc es x.2.1 && !isEmptyL x.2.1)
  | .or es, e => (vBo e).any fun x => x.1 == .Or && (chks sc es x.2.1 && !isEmptyL x.2.1)
  | .ite c a b, e => (vIf e).any fun x => chk sc c x.1 && chk sc a x.2.1 && chk sc b x.2.2.1
  | .call f args, e => (vCall e).any fun x => (vName x.1).any fun y => isEmptyL x.2.2.1 && (isGlob sc y.1 && gfuns.lookup f == some y.1 && chks sc args x.2.1 && decide (x.2.1.length < 20))
  | .meth o m args, e => (vCall e).any fun x => (vAttr x.1).any fun y => isEmptyL x.2.2.1 && (chk sc o y.1 && plainBase y.1 && methNames[m]? == some y.2.1 && chks sc args x.2.1 && decide (x.2.1.length < 20) && y.2.2.endLine == x.2.2.2.line)
  | .attr o a, e => (vAttr e).any fun x => chk sc o x.1 && plainBase x.1 && attrNames[a]? == some x.2.1
  | .prices, e => (vAttr e).any fun x => (vName x.1).any fun y => isGlob sc y.1 && y.1 == ("PriceRows" : Str) && x.2.1 == ("rows" : Str)
  | .sub a b, e => (vSub e).any fun x => (vSlice x.2.1).isNone && (chk sc a x.1 && chk sc b x.2.1)
  | .upto a b, e => (vSub e).any fun x => (vSlice x.2.1).any fun y => y.2.1.any fun h => y.1.isNone && y.2.2.1.isNone && (chk sc a x.1 && chk sc b h)
  | .from a b, e => (vSub e).any fun x => (vSlice x.2.1).any fun y => y.1.any fun h => y.2.1.isNone && y.2.2.1.isNone && (chk sc a x.1 && chk sc b h)
  | .rev a, e => (vSub e).any fun x => (vSlice x.2.1).any fun y => y.2.2.1.any fun h => (vUn h).any fun u => (vInt u.2.1).any fun i => y.1.isNone && y.2.1.isNone && u.1 == .USub && (chk sc a x.1 && i.1 == 1)
  | .every a k, e => (vSub e).any fun x => (vSlice x.2.1).any fun y => y.2.2.1.any fun h => (vInt h).any fun i => y.1.isNone && y.2.1.isNone && (chk sc a x.1 && i.1 == (k : Int) && decide (0 < k))
  | .list es, e => (vList e).any fun x => chks sc es x.1
  | .comp elt j cap it, e => (vLC e).any fun x => (one x.2.1).any fun g => (vName g.target).any fun t => isEmptyL g.ifs && decide (g.is_async = (0 : Int)) &&
    (chki sc it g.iter && chk (seenIn sc x.2.2.1) elt x.1 && nm[j]? == some t.1 && x.2.2.1.kind == .function && x.2.2.1.names.lookup t.1 == some .local && !cap.contains j && !(t.1 == ("__debug__" : Str)) && !(t.1 == (".0" : Str)) &&
    cap.all (fun i => match nm[i]? with
      | some z => sc.names.lookup z == some .cell && x.2.2.1.names.lookup z == some .free && !(z == ("__debug__" : Str))
      | none => false) &&
    x.2.2.1.names.all (fun n => (n.2 == .local && (n.1 == t.1 || n.1 == (".0" : Str))) || (n.2 == .free && sc.names.lookup n.1 == some .cell) || n.2 == .globalImplicit) && decide (x.2.2.1.names.map (·.1)).Nodup)
  | .b1 .bitlen a, e => (vCall e).any fun x => (vAttr x.1).any fun y => isEmptyL x.2.1 && isEmptyL x.2.2.1 && (chk sc a y.1 && plainBase y.1 && y.2.1 == ("bit_length" : Str) && y.2.2.endLine == x.2.2.2.line)
  | .b1 .isint a, e => (vCall e).any fun x => (vName x.1).any fun n => (two x.2.1).any fun y => (vName y.2).any fun z => isEmptyL x.2.2.1 && (isGlob sc n.1 && n.1 == ("isinstance" : Str) && isGlob sc z.1 && z.1 == ("int" : Str) && chk sc a y.1)
  | .b1 f a, e => (vCall e).any fun x => (vName x.1).any fun n => (one x.2.1).any fun y => isEmptyL x.2.2.1 && (isGlob sc n.1 && n.1 == b1Name f && chk sc a y)
  | .max2 a b, e => (vCall e).any fun x => (vName x.1).any fun n => (two x.2.1).any fun y => isEmptyL x.2.2.1 && (isGlob sc n.1 && n.1 == ("max" : Str) && chk sc a y.1 && chk sc b y.2)
  | .barr0, e => (vCall e).any fun x => (vName x.1).any fun n => isEmptyL x.2.1 && isEmptyL x.2.2.1 && (isGlob sc n.1 && n.1 == ("bytearray" : Str))
noncomputable def chks (sc : Scope) : Es → List Expr → Bool
  | .nil, xs => isEmptyL xs
  | .cons e r, xs => (uncons xs).any fun x => notStar x.1 && (chk sc e x.1 && chks sc r x.2)
noncomputable def chkc (sc : Scope) : Cs → List CmpOp → List Expr → Bool
  | .one o e, ops, xs => (one ops).any fun op => (one xs).any fun x => coIs o op && chk sc e x
  | .more o e r, ops, xs => (uncons ops).any fun op => (uncons xs).any fun x => coIs o op.1 && chk sc e x.1 && chkc sc r op.2 x.2 && !isEmptyL op.2 && !isEmptyL x.2
noncomputable def chki (sc : Scope) : It → Expr → Bool
  | .range e, y => (vCall y).any fun x => (vName x.1).any fun n => (one x.2.1).any fun a => isEmptyL x.2.2.1 && (isGlob sc n.1 && n.1 == ("range" : Str) && chk sc e a)
  | .range3 a b c, y => (vCall y).any fun x => (vName x.1).any fun n => (uncons x.2.1).any fun u => (two u.2).any fun v => isEmptyL x.2.2.1 && (isGlob sc n.1 && n.1 == ("range" : Str) && chk sc a u.1 && chk sc b v.1 && chk sc c v.2)
  | .elems e, x => notSet x && chk sc e x
end
noncomputable def slotsOf (sc : Scope) : List Nat → List Expr → Bool
  | [], xs => isEmptyL xs
  | i :: is, xs => (uncons xs).any fun y => (vName y.1).any fun x => isVar nm sc i x.1 && slotsOf sc is y.2
noncomputable def constOk (vs : List Expr) : Bool := decide (vs.length ≤ 100) && (vs.all (foldedForSure 8) || !(vs.all (constantsAlone 8)))
noncomputable def noSwap (sc : Scope) (x : Str) (p : Pos) : Expr → Bool
  | .ListComp _ _ scope q => !(sc.names.lookup x == some .local && p.line == q.line && !(scope.names.any fun n => n.1 == x && (n.2 == .local || n.2 == .cell)))
  | .SetComp .. => false
  | .DictComp .. => false
  | _ => true
noncomputable def doSwap (sc : Scope) (x : Str) (p : Pos) : Expr → Bool
  | .ListComp _ _ scope q => sc.names.lookup x == some .local && p.line == q.line && !(scope.names.any fun n => n.1 == x && (n.2 == .local || n.2 == .cell))
  | _ => false
noncomputable def noSlice : Expr → Bool
  | .Slice .. => false
  | _ => true
noncomputable def noComp : Expr → Bool
  | .ListComp .. => false
  | .SetComp .. => false
  | .DictComp .. => false
  | _ => true
noncomputable def augOp : Op → Bool
  | .add => true
  | .sub => true
  | .mul => true
  | .shl => true
  | .shr => true
  | _ => false
noncomputable def isCall : Expr → Bool
  | .Call .. => true
  | _ => false
mutual
noncomputable def chkS (sc : Scope) : S → Stmt → Bool
  | .asg i e, s => (vAsg s).any fun x => (one x.1).any fun t => (vName t).any fun n => isVar nm sc i n.1 && chk nm sc e x.2.1 && noSwap sc n.1 n.2 x.2.1
  | .asgComp i e, s => (vAsg s).any fun x => (one x.1).any fun t => (vName t).any fun n => isVar nm sc i n.1 && chk nm sc e x.2.1 && doSwap sc n.1 n.2 x.2.1
  | .asgs is es, s => (vAsg s).any fun x => (one x.1).any fun t => (vTup t).any fun ts => (vTup x.2.1).any fun vs => slotsOf nm sc is ts.1 && chks nm sc es vs.1 && decide is.Nodup && decide (is.length = vs.1.length) && constOk vs.1
  | .asgIf is c a b, s => (vAsg s).any fun x => (one x.1).any fun t => (vTup t).any fun ts => (vIf x.2.1).any fun u => (vTup u.2.1).any fun y => (vTup u.2.2.1).any fun z =>
    slotsOf nm sc is ts.1 && chk nm sc c u.1 && chks nm sc a y.1 && chks nm sc b z.1 && decide is.Nodup && decide (is.length = y.1.length) && decide (is.length = z.1.length) && decide (is.length ≤ 100)
  | .setItem o i v, s => (vAsg s).any fun x => (one x.1).any fun t => (vSub t).any fun u => noSlice u.2.1 && noComp x.2.1 && chk nm sc o u.1 && chk nm sc i u.2.1 && chk nm sc v x.2.1
  | .setAttr o a v, s => (vAsg s).any fun x => (one x.1).any fun t => (vAttr t).any fun u => noComp x.2.1 && chk nm sc o u.1 && attrNames[a]? == some u.2.1 && chk nm sc v x.2.1
  | .aug i o e, s => (vAug s).any fun x => (vName x.1).any fun n => isVar nm sc i n.1 && opIs o x.2.1 && chk nm sc e x.2.2.1 && augOp o
  | .augAttr ob a o e, s => (vAug s).any fun x => (vAttr x.1).any fun u => chk nm sc ob u.1 && attrNames[a]? == some u.2.1 && opIs o x.2.1 && chk nm sc e x.2.2.1 && augOp o
  | .iff c a b, s => (vIfS s).any fun x => chk nm sc c x.1 && chkSs sc a x.2.1 && chkSs sc b x.2.2.1
  | .for_ i it body, s => (vFor s).any fun x => (vName x.1).any fun n => isEmptyL x.2.2.2.1 && (isVar nm sc i n.1 && chki nm sc it x.2.1 && chkSs sc body x.2.2.1)
  | .forEnum i j e body, s => (vFor s).any fun x => (vTup x.1).any fun t => (two t.1).any fun w => (vName w.1).any fun n => (vName w.2).any fun m => (vCall x.2.1).any fun u => (vName u.1).any fun z => (one u.2.1).any fun v =>
    isEmptyL x.2.2.2.1 && isEmptyL u.2.2.1 && (isVar nm sc i n.1 && isVar nm sc j m.1 && decide (i ≠ j) && isGlob sc z.1 && z.1 == ("enumerate" : Str) && chk nm sc e v && chkSs sc body x.2.2.1)
  | .ret e, s => (vRet s).any fun x => x.1.any fun v => chk nm sc e v
  | .append ob v, s => (vExp s).any fun x => (vCall x.1).any fun u => (vAttr u.1).any fun w => (one u.2.1).any fun y => isEmptyL u.2.2.1 && (chk nm sc ob w.1 && plainBase w.1 && w.2.1 == ("append" : Str) && chk nm sc v y && w.2.2.endLine == u.2.2.2.line)
  | .extend ob v, s => (vExp s).any fun x => (vCall x.1).any fun u => (vAttr u.1).any fun w => (one u.2.1).any fun y => isEmptyL u.2.2.1 && (chk nm sc ob w.1 && plainBase w.1 && w.2.1 == ("extend" : Str) && chk nm sc v y && w.2.2.endLine == u.2.2.2.line)
  | .exp e, s => (vExp s).any fun x => chk nm sc e x.1 && isCall x.1
  | .raise, s => vRaise s
noncomputable def chkSs (sc : Scope) : Ss → List Stmt → Bool
  | .nil, xs => isEmptyL xs
  | .cons s r, xs => (uncons xs).any fun x => chkS sc s x.1 && chkSs sc r x.2
end
end
end Tk

namespace Tk
open PySem PySem.W

/-- a tree of objects, partly known -/
inductive OT where
  | nil
  | node (v : Option Obj) (l r : OT)
namespace OT
noncomputable def get (t : OT) : Nat → Option Obj := OT.rec (motive := fun _ => Nat → Option Obj) (fun _ => Option.none)
  (fun v _ _ gl gr i => Bool.rec (motive := fun _ => Option Obj) (Bool.rec (motive := fun _ => Option Obj) (gr (Nat.sub (Nat.div i 2) 1)) (gl (Nat.div i 2)) (Nat.beq (Nat.mod i 2) 1)) v (Nat.beq i 0)) t
noncomputable def val : OT → Option Obj
  | .nil => none
  | .node v _ _ => v
noncomputable def left : OT → OT
  | .nil => .nil
  | .node _ l _ => l
noncomputable def right : OT → OT
  | .nil => .nil
  | .node _ _ r => r
noncomputable def put (d : Nat) : OT → Nat → Option Obj → OT := Nat.rec (motive := fun _ => OT → Nat → Option Obj → OT) (fun t _ _ => t)
  (fun _ ih t i f => OT.rec (motive := fun _ => OT)
    (Bool.rec (motive := fun _ => OT) (Bool.rec (motive := fun _ => OT) (.node Option.none .nil (ih .nil (Nat.sub (Nat.div i 2) 1) f)) (.node Option.none (ih .nil (Nat.div i 2) f) .nil) (Nat.beq (Nat.mod i 2) 1)) (.node f .nil .nil) (Nat.beq i 0))
    (fun v l r _ _ => Bool.rec (motive := fun _ => OT) (Bool.rec (motive := fun _ => OT) (.node v l (ih r (Nat.sub (Nat.div i 2) 1) f)) (.node v (ih l (Nat.div i 2) f) r) (Nat.beq (Nat.mod i 2) 1)) (.node f l r) (Nat.beq i 0)) t) d
theorem beq_eq (a b : Nat) : Nat.beq a b = decide (a = b) := BT.beq_eq a b
theorem pick_eq {α : Type} (i : Nat) (a b c : α) : (Bool.rec (motive := fun _ => α) (Bool.rec (motive := fun _ => α) c b (Nat.beq (Nat.mod i 2) 1)) a (Nat.beq i 0) : α) = if i = 0 then a else if i % 2 = 1 then b else c := by
  rw [beq_eq, beq_eq]
  by_cases h : i = 0
  · rw [if_pos h, decide_eq_true h]
  · rw [if_neg h, decide_eq_false h]
    by_cases q : i % 2 = 1
    · rw [if_pos q, decide_eq_true (p := Nat.mod i 2 = 1) q]
    · rw [if_neg q, decide_eq_false (p := Nat.mod i 2 = 1) q]
theorem get_eq (t : OT) (i : Nat) : t.get i = if i = 0 then t.val else if i % 2 = 1 then t.left.get (i / 2) else t.right.get (i / 2 - 1) := by
  rw [← pick_eq]
  cases t with
  | nil =>
    show Option.none = _
    cases Nat.beq i 0 <;> first | rfl | cases Nat.beq (Nat.mod i 2) 1 <;> rfl
  | node v l r => rfl
theorem put_eq (d : Nat) (t : OT) (i : Nat) (f : Option Obj) : put (d + 1) t i f = if i = 0 then .node f t.left t.right else if i % 2 = 1 then .node t.val (put d t.left (i / 2) f) t.right else .node t.val t.left (put d t.right (i / 2 - 1) f) := by
  rw [← pick_eq]
  cases t <;> rfl
theorem get_put (f : Option Obj) : ∀ (d : Nat) (t : OT) (a i : Nat), a + 1 < 2 ^ d → (put d t a f).get i = if i = a then f else t.get i
  | 0, t, a, i, h => by simp at h
  | d + 1, t, a, i, h => by
    rw [Nat.pow_succ] at h
    rw [put_eq]
    by_cases ha : a = 0
    · subst ha
      rw [if_pos rfl, get_eq]
      by_cases hi : i = 0
      · simp [hi, val]
      · rw [if_neg hi, if_neg hi, get_eq t i, if_neg hi]; rfl
    · rw [if_neg ha]
      by_cases pa : a % 2 = 1
      · rw [if_pos pa, get_eq, get_eq t i]
        by_cases hi : i = 0
        · subst hi; rw [if_pos rfl, if_neg (Ne.symm ha), if_pos rfl]; rfl
        · rw [if_neg hi, if_neg hi]
          by_cases pi : i % 2 = 1
          · rw [if_pos pi, if_pos pi]
            show (put d t.left (a / 2) f).get (i / 2) = _
            rw [get_put f d t.left (a / 2) (i / 2) (by (first | lia | omega))]
            by_cases q : i = a
            · rw [if_pos q, if_pos (by rw [q])]
            · rw [if_neg q, if_neg (by (first | lia | omega))]
          · rw [if_neg pi, if_neg pi, if_neg (by rintro rfl; exact pi pa)]; rfl
      · rw [if_neg pa, get_eq, get_eq t i]
        by_cases hi : i = 0
        · subst hi; rw [if_pos rfl, if_neg (Ne.symm ha), if_pos rfl]; rfl
        · rw [if_neg hi, if_neg hi]
          by_cases pi : i % 2 = 1
          · rw [if_pos pi, if_pos pi, if_neg (by rintro rfl; exact pa pi)]; rfl
          · rw [if_neg pi, if_neg pi]
            show (put d t.right (a / 2 - 1) f).get (i / 2 - 1) = _
            rw [get_put f d t.right (a / 2 - 1) (i / 2 - 1) (by (first | lia | omega))]
            by_cases q : i = a
            · rw [if_pos q, if_pos (by rw [q])]
            · rw [if_neg q, if_neg (by (first | lia | omega))]
end OT

structure PS where
  tree : OT
  n : Nat
  toks : Nat
  log : List (Ctx × Pos × Code × OT × Nat × Nat) := []

noncomputable abbrev GS := {α : Type} → Ctx → Pos → Sem α → PS → Option (Except Value α × Pos × PS)
noncomputable abbrev GC := Ctx → Pos → Code → PS → Option (Result × PS)

section
variable (den : Code → Sem Fin) (prog : Program) (w : World) (hole : Code → Bool) (orc : OT → OT) (orN orT : Nat)
noncomputable def stepGs (gs : GS) (gc : GC) : GS := fun Γ p t s => match t with
  | .pure a => some (.ok a, p, s)
  | .raise e => some (.error e, p, s)
  | .rule _ k => gs Γ p (k ()) s
  | .at p' k => gs Γ p' (k ()) s
  | .load a _ k => match s.tree.get a with
    | some o => match alive o with
      | some o => gs Γ p (k o) s
      | none => none
    | none => none
  | .update a _ f k => match Nat.blt a 65535 with
    | true => match s.tree.get a with
      | some o => match alive o with
        | some _ => gs Γ p (k ()) ⟨s.tree.put 16 a (some (f o)), s.n, s.toks, s.log⟩
        | none => none
      | none => none
    | false => none
  | .alloc o k => match Nat.blt s.n 65535 with
    | true => gs Γ p (k s.n) ⟨s.tree.put 16 s.n (some o), s.n + 1, s.toks, s.log⟩
    | false => none
  | .loadIfAlive a k => match s.tree.get a with
    | some o => gs Γ p (k (alive o)) s
    | none => none
  | .point _ k => gs Γ p (k ()) s
  | .fresh k => gs Γ p (k s.toks) ⟨s.tree, s.n, s.toks + 1, s.log⟩
  | .ask k => gs Γ p (k ⟨prog, w.params⟩) s
  | .call c h _ _ k => match gc (Γ.enter c h p) p c s with
    | some (r, s') => gs Γ p (k r) s'
    | none => none
  | .handled own k => gs Γ p (k (if own then Γ.own else Γ.handled)) s
  | .stack k => gs Γ p (k ((Γ.code, p) :: Γ.below)) s
  | _ => none
noncomputable def stepGc (gs : GS) (gc : GC) : GC := fun Γ p c s => match hole c with
  | true => some (.ok .next, ⟨orc s.tree, orN, orT, (Γ, p, c, s.tree, s.n, s.toks) :: s.log⟩)
  | false => match gs Γ p (den c) s with
    | some (.ok (.done f), _, s') => some (.ok f, s')
    | some (.ok (.again c'), p', s') => match c'.quiet with
      | true => gc (Γ.goto c') p' c' s'
      | false => none
    | some (.error e, _, s') => some (.error e, s')
    | none => none
structure Both where
  gs : GS
  gc : GC
noncomputable def both (n : Nat) : Both := Nat.rec (motive := fun _ => Both) ⟨fun _ _ _ _ => none, fun _ _ _ _ => none⟩ (fun _ ih => ⟨stepGs prog w ih.gs ih.gc, stepGc den hole orc orN orT ih.gs ih.gc⟩) n
end

/-- the state knows what the tree says -/
structure Rep (s : PS) (S : Shared) : Prop where
  size : S.heap.objs.size = s.n
  toks : S.toks = s.toks
  gens : S.gens = #[]
  know : ∀ a o, s.tree.get a = some o → S.heap.objs[a]? = some o
/-- what no step of these turns -/
noncomputable def Still (S S' : Shared) : Prop := S'.heap.life = S.heap.life ∧ S'.drawn = S.drawn ∧ S'.os = S.os
theorem Still.refl (S : Shared) : Still S S := ⟨rfl, rfl, rfl⟩
theorem Still.trans {a b c : Shared} (h : Still a b) (h' : Still b c) : Still a c := ⟨h'.1.trans h.1, h'.2.1.trans h.2.1, h'.2.2.trans h.2.2⟩

theorem get_alive {h : Heap} {a : Addr} {o o' : Obj} (e : h.objs[a]? = some o) (l : alive o = some o') : h.get? a = some o' := by
  unfold Heap.get?
  rw [e]
  obtain ⟨c, d, dt, sl⟩ := o
  cases dt <;> first | exact l | cases l
theorem get_alive' {h : Heap} {a : Addr} {o : Obj} (e : h.objs[a]? = some o) : h.get? a = alive o := by
  unfold Heap.get?
  rw [e]
  obtain ⟨c, d, dt, sl⟩ := o
  cases dt <;> rfl

noncomputable def Valid (M : Model) (orc : OT → OT) (orN orT : Nat) (x : Ctx × Pos × Code × OT × Nat × Nat) : Prop :=
  ∀ S, Rep ⟨x.2.2.2.1, x.2.2.2.2.1, x.2.2.2.2.2, []⟩ S → ∃ S', Rep ⟨orc x.2.2.2.1, orN, orT, []⟩ S' ∧ Still S S' ∧ wpCode M x.1 (fun r s' => r = .ok .next ∧ s' = S') x.2.1 S

theorem Rep.log {s : PS} {S : Shared} {l} (R : Rep s S) : Rep { s with log := l } S := ⟨R.size, R.toks, R.gens, R.know⟩
end Tk

namespace Tk2
open PySem PySem.W Tk
section
variable {prog : Program} {w : World} {den : Code → Sem Fin} {hole : Code → Bool} {orc : OT → OT} {orN orT : Nat}
/-- what was not known stays unknown -/
noncomputable def Narrow (s s' : PS) : Prop := s.n ≤ s'.n ∧ ∀ a, a < s.n → s.tree.get a = none → s'.tree.get a = none
/-- what is not known is not turned -/
noncomputable def Stay (s : PS) (S S' : Shared) : Prop := ∀ a, a < s.n → s.tree.get a = none → S'.heap.objs[a]? = S.heap.objs[a]?
theorem Narrow.refl (s : PS) : Narrow s s := ⟨Nat.le_refl _, fun _ _ h => h⟩
theorem Narrow.trans {a b c : PS} (h : Narrow a b) (k : Narrow b c) : Narrow a c := ⟨Nat.le_trans h.1 k.1, fun x hx e => k.2 x (Nat.lt_of_lt_of_le hx h.1) (h.2 x hx e)⟩
theorem Stay.refl (s : PS) (S : Shared) : Stay s S S := fun _ _ _ => rfl
theorem Stay.trans {a b : PS} {S S₁ S₂ : Shared} (h : Stay a S S₁) (n : Narrow a b) (k : Stay b S₁ S₂) : Stay a S S₂ := fun x hx e => (k x (Nat.lt_of_lt_of_le hx n.1) (n.2 x hx e)).trans (h x hx e)
theorem app_nil {α : Type} {a b c : List α} (h : a ++ (b ++ c) = c) : a = [] ∧ b = [] := by
  have := congrArg List.length h
  simp only [List.length_append] at this
  exact ⟨List.length_eq_zero_iff.mp (by (first | lia | omega)), List.length_eq_zero_iff.mp (by (first | lia | omega))⟩

noncomputable def endsIn {α : Type} (Q : α → Pos → Shared → Prop) (E : Value → Pos → Shared → Prop) (p : Pos) (S : Shared) : Except Value α → Prop
  | .ok a => Q a p S
  | .error e => E e p S
noncomputable abbrev GsPost (M : Model) (orc : OT → OT) (orN orT : Nat) {α : Type} (Γ : Ctx) (p : Pos) (s : PS) (r : Except Value α) (p' : Pos) (s' : PS) (t : Sem α) : Prop :=
  (∃ l, s'.log = l ++ s.log) ∧ (s'.log = s.log → Narrow s s') ∧ ((∀ x ∈ s'.log, Valid M orc orN orT x) → ∀ S, Rep s S → ∃ S', Rep s' S' ∧ Still S S' ∧ (s'.log = s.log → Stay s S S') ∧
      ∀ (Q : α → Pos → Shared → Prop) (E : Value → Pos → Shared → Prop), endsIn Q E p' S' r → Sem.wp M Γ t Q E p S)
noncomputable def GsOk (M : Model) (orc : OT → OT) (orN orT : Nat) (gs : GS) : Prop :=
  ∀ {α : Type} (Γ : Ctx) (p : Pos) (t : Sem α) (s : PS) (r : Except Value α) (p' : Pos) (s' : PS), gs Γ p t s = some (r, p', s') →
    GsPost M orc orN orT Γ p s r p' s' t
noncomputable abbrev GcPost (M : Model) (orc : OT → OT) (orN orT : Nat) (Γ : Ctx) (p : Pos) (s : PS) (r : Result) (s' : PS) : Prop :=
  (∃ l, s'.log = l ++ s.log) ∧ (s'.log = s.log → Narrow s s') ∧ ((∀ x ∈ s'.log, Valid M orc orN orT x) → ∀ S, Rep s S → ∃ S', Rep s' S' ∧ Still S S' ∧ (s'.log = s.log → Stay s S S') ∧ wpCode M Γ (fun r' s'' => r' = r ∧ s'' = S') p S)
noncomputable def GcOk (M : Model) (orc : OT → OT) (orN orT : Nat) (gc : GC) : Prop :=
  ∀ (Γ : Ctx) (p : Pos) (c : Code) (s : PS) (r : Result) (s' : PS), Γ.code = c → gc Γ p c s = some (r, s') →
    GcPost M orc orN orT Γ p s r s'

theorem blt_lt {a b : Nat} (h : Nat.blt a b = true) : a < b := Nat.le_of_ble_eq_true h

theorem Rep.log {s : PS} {S : Shared} {l} (R : Rep s S) : Rep { s with log := l } S := ⟨R.size, R.toks, R.gens, R.know⟩

theorem stepGs_ok {M : Model} (hM : M.prog = prog) (hw : M.w = w) {gs : GS} {gc : GC} (G : GsOk M orc orN orT gs) (C : GcOk M orc orN orT gc) : GsOk M orc orN orT (stepGs prog w gs gc) := by
  intro α Γ p t s r p' s' h
  have same : ∀ {t t' : Sem α} {p₁ : Pos} {s₁ : PS} (f : Shared → Shared), gs Γ p₁ t' s₁ = some (r, p', s') → s₁.log = s.log → Narrow s s₁ → (∀ S, Rep s S → Rep s₁ (f S) ∧ Still S (f S) ∧ Stay s S (f S)) →
      (∀ S, Rep s S → ∀ Q E, Sem.wp M Γ t' Q E p₁ (f S) → Sem.wp M Γ t Q E p S) →
      GsPost M orc orN orT Γ p s r p' s' t := by
    intro t t' p₁ s₁ f h el hn hf hwp
    obtain ⟨⟨l, hl⟩, nr, k⟩ := G Γ p₁ t' s₁ r p' s' h
    refine ⟨⟨l, by rw [hl, el]⟩, fun e => hn.trans (nr (e.trans el.symm)), fun hv S R => ?_⟩
    refine Classical.byContradiction fun hG0 => ?_
    obtain ⟨R', st, sy⟩ := hf S R
    obtain ⟨S', a, b, d, c⟩ := k hv _ R'
    refine hG0 ?_
    exact ⟨S', a, st.trans b, fun e => sy.trans hn (d (e.trans el.symm)), fun Q E q => hwp S R Q E (c Q E q)⟩
  cases t with
  | pure a =>
    cases h
    exact ⟨⟨[], rfl⟩, fun _ => .refl _, fun _ S R => ⟨S, R, .refl S, fun _ => .refl _ S, fun Q E q => q⟩⟩
  | raise e =>
    cases h
    exact ⟨⟨[], rfl⟩, fun _ => .refl _, fun _ S R => ⟨S, R, .refl S, fun _ => .refl _ S, fun Q E q => q⟩⟩
  | rule tag k => exact same id h rfl (.refl _) (fun S R => ⟨R, .refl S, .refl _ S⟩) fun S R Q E q => q
  | «at» q k => exact same id h rfl (.refl _) (fun S R => ⟨R, .refl S, .refl _ S⟩) fun S R Q E q => q
  | point l k => exact same id h rfl (.refl _) (fun S R => ⟨R, .refl S, .refl _ S⟩) fun S R Q E q => q
  | ask k =>
    refine same id h rfl (.refl _) (fun S R => ⟨R, .refl S, .refl _ S⟩) fun S R Q E q => ?_
    subst hM hw
    exact q
  | handled own k => exact same id h rfl (.refl _) (fun S R => ⟨R, .refl S, .refl _ S⟩) fun S R Q E q => q
  | stack k => exact same id h rfl (.refl _) (fun S R => ⟨R, .refl S, .refl _ S⟩) fun S R Q E q => q
  | fresh k =>
    refine same (t' := k s.toks) (s₁ := ⟨s.tree, s.n, s.toks + 1, s.log⟩) (fun S => { S with toks := S.toks + 1 }) h rfl ⟨Nat.le_refl _, fun _ _ e => e⟩ (fun S R => ⟨⟨R.size, by show S.toks + 1 = _; rw [R.toks], R.gens, R.know⟩, ⟨rfl, rfl, rfl⟩, fun _ _ _ => rfl⟩) fun S R Q E q => ?_
    show Sem.wp M Γ (k S.toks) Q E p _
    rw [R.toks]
    rw [R.toks] at q
    exact q
  | load a part k =>
    delta stepGs at h; dsimp only at h
    cases g : s.tree.get a with
    | none => rw [g] at h; cases h
    | some o =>
      rw [g] at h
      cases l : alive o with
      | none => dsimp only at h; rw [l] at h; cases h
      | some o' =>
        dsimp only at h; rw [l] at h
        exact same id h rfl (.refl _) (fun S R => ⟨R, .refl S, .refl _ S⟩) fun S R Q E q => ⟨o', get_alive (R.know a o g) l, q⟩
  | loadIfAlive a k =>
    delta stepGs at h; dsimp only at h
    cases g : s.tree.get a with
    | none => rw [g] at h; cases h
    | some o =>
      rw [g] at h
      refine same id h rfl (.refl _) (fun S R => ⟨R, .refl S, .refl _ S⟩) fun S R Q E q => ?_
      show Sem.wp M Γ (k (S.heap.get? a)) Q E p S
      rw [get_alive' (R.know a o g)]
      exact q
  | update a part f k =>
    delta stepGs at h; dsimp only at h
    cases b : Nat.blt a 65535 with
    | false => rw [b] at h; cases h
    | true =>
      rw [b] at h
      cases g : s.tree.get a with
      | none => rw [g] at h; cases h
      | some o =>
        rw [g] at h
        cases l : alive o with
        | none => dsimp only at h; rw [l] at h; cases h
        | some o' =>
          dsimp only at h; rw [l] at h
          have ha := blt_lt b
          refine same (s₁ := ⟨s.tree.put 16 a (some (f o)), s.n, s.toks, s.log⟩) (fun S => { S with heap := S.heap.update a f }) h rfl ⟨Nat.le_refl _, fun x _ e => by
              show (s.tree.put 16 a (some (f o))).get x = none
              rw [OT.get_put _ 16 _ _ _ (by (first | lia | omega)), if_neg (by rintro rfl; rw [g] at e; cases e)]; exact e⟩ (fun S R => ?_) fun S R Q E q => ?_
          · refine ⟨⟨?_, R.toks, R.gens, fun i oi hi => ?_⟩, ⟨rfl, rfl, rfl⟩, fun x _ e => ?_⟩
            · show (S.heap.objs.modify a f).size = _
              rw [Array.size_modify]; exact R.size
            · rw [OT.get_put _ 16 _ _ _ (by (first | lia | omega))] at hi
              show (S.heap.objs.modify a f)[i]? = some oi
              rw [Array.getElem?_modify]
              by_cases e : i = a
              · subst e
                rw [if_pos rfl] at hi
                cases hi
                rw [if_pos rfl, R.know i o g]; rfl
              · rw [if_neg e] at hi
                rw [if_neg (Ne.symm e)]; exact R.know i oi hi
            · show (S.heap.objs.modify a f)[x]? = _
              rw [Array.getElem?_modify, if_neg (by rintro rfl; rw [g] at e; cases e)]
          · exact ⟨by rw [get_alive (R.know a o g) l]; rfl, q⟩
  | alloc o k =>
    delta stepGs at h; dsimp only at h
    cases b : Nat.blt s.n 65535 with
    | false => rw [b] at h; cases h
    | true =>
      rw [b] at h
      have ha := blt_lt b
      refine same (s₁ := ⟨s.tree.put 16 s.n (some o), s.n + 1, s.toks, s.log⟩) (fun S => { S with heap := S.heap.push o }) h rfl ⟨Nat.le_succ _, fun x hx e => by
          show (s.tree.put 16 s.n (some o)).get x = none
          rw [OT.get_put _ 16 _ _ _ (by (first | lia | omega)), if_neg (Nat.ne_of_lt hx)]; exact e⟩ (fun S R => ?_) fun S R Q E q => ?_
      · refine ⟨⟨?_, R.toks, R.gens, fun i oi hi => ?_⟩, ⟨rfl, rfl, rfl⟩, fun x hx e => ?_⟩
        · show (S.heap.objs.push o).size = _
          rw [Array.size_push, R.size]
        · rw [OT.get_put _ 16 _ _ _ (by (first | lia | omega))] at hi
          show (S.heap.objs.push o)[i]? = some oi
          rw [Array.getElem?_push, R.size]
          by_cases e : i = s.n
          · rw [if_pos e] at hi ⊢; exact hi
          · rw [if_neg e] at hi ⊢; exact R.know i oi hi
        · show (S.heap.objs.push o)[x]? = _
          rw [Array.getElem?_push, R.size, if_neg (Nat.ne_of_lt hx)]
      · show Sem.wp M Γ (k S.heap.objs.size) Q E p _
        rw [R.size]
        exact q
  | call c hd g l k =>
    delta stepGs at h; dsimp only at h
    cases e : gc (Γ.enter c hd p) p c s with
    | none => rw [e] at h; cases h
    | some x =>
      refine Classical.byContradiction fun hG1 => ?_
      obtain ⟨r₁, s₁⟩ := x
      rw [e] at h
      obtain ⟨⟨l₁, hl₁⟩, n₁, k₁⟩ := C _ _ _ _ _ _ rfl e
      obtain ⟨⟨l₂, hl₂⟩, n₂, k₂⟩ := G _ _ _ _ _ _ _ h
      refine hG1 ?_
      have both : s'.log = s.log → s₁.log = s.log ∧ s'.log = s₁.log := fun e => by
        rw [hl₂, hl₁] at e
        obtain ⟨rfl, rfl⟩ := app_nil e
        exact ⟨hl₁, hl₂⟩
      refine ⟨⟨l₂ ++ l₁, by rw [hl₂, hl₁, List.append_assoc]⟩, fun e => (n₁ (both e).1).trans (n₂ (both e).2), fun hv S R => ?_⟩
      refine Classical.byContradiction fun hG2 => ?_
      obtain ⟨S₁, R₁, st₁, sy₁, w₁⟩ := k₁ (fun x hx => hv x (by rw [hl₂]; exact List.mem_append_right _ hx)) S R
      obtain ⟨S₂, R₂, st₂, sy₂, w₂⟩ := k₂ hv S₁ R₁
      refine hG2 ?_
      refine ⟨S₂, R₂, st₁.trans st₂, fun e => (sy₁ (both e).1).trans (n₁ (both e).1) (sy₂ (both e).2), fun Q E q => ?_⟩
      show wpCode M (Γ.enter c hd p) (fun r s' => Sem.wp M Γ (k r) Q E p s') p S
      refine wpCode_mono (fun r s' hr => ?_) w₁
      obtain ⟨rfl, rfl⟩ := hr
      exact w₂ Q E q
  | _ => cases h

theorem stepGc_ok {M : Model} (hd : M.den = den) {gs : GS} {gc : GC} (G : GsOk M orc orN orT gs) (C : GcOk M orc orN orT gc) : GcOk M orc orN orT (stepGc den hole orc orN orT gs gc) := by
  intro Γ p c s r s' hc h
  delta stepGc at h
  cases ho : hole c with
  | true =>
    rw [ho] at h
    cases h
    have no : ¬ ((Γ, p, c, s.tree, s.n, s.toks) :: s.log = s.log) := fun e => by
      have := congrArg List.length e
      simp at this
    refine ⟨⟨[(Γ, p, c, s.tree, s.n, s.toks)], rfl⟩, fun e => absurd e no, fun hv S R => ?_⟩
    refine Classical.byContradiction fun hG0 => ?_
    obtain ⟨S', R', st, hw⟩ := hv _ (List.mem_cons_self) S R.log
    refine hG0 ?_
    exact ⟨S', R'.log, st, fun e => absurd e no, hw⟩
  | false =>
    rw [ho] at h
    dsimp only at h
    cases e : gs Γ p (den c) s with
    | none => rw [e] at h; cases h
    | some x =>
      obtain ⟨r₁, p₁, s₁⟩ := x
      rw [e] at h
      obtain ⟨⟨l₁, hl₁⟩, n₁, k₁⟩ := G _ _ _ _ _ _ _ e
      cases r₁ with
      | error ev =>
        cases h
        refine ⟨⟨l₁, hl₁⟩, n₁, fun hv S R => ?_⟩
        refine Classical.byContradiction fun hG1 => ?_
        obtain ⟨S₁, R₁, st₁, sy₁, w₁⟩ := k₁ hv S R
        refine hG1 ?_
        refine ⟨S₁, R₁, st₁, sy₁, ?_⟩
        rw [wpCode_iff_wp, hc, hd]
        exact w₁ _ _ ⟨rfl, rfl⟩
      | ok fin =>
        cases fin with
        | done f =>
          cases h
          refine ⟨⟨l₁, hl₁⟩, n₁, fun hv S R => ?_⟩
          refine Classical.byContradiction fun hG2 => ?_
          obtain ⟨S₁, R₁, st₁, sy₁, w₁⟩ := k₁ hv S R
          refine hG2 ?_
          refine ⟨S₁, R₁, st₁, sy₁, ?_⟩
          rw [wpCode_iff_wp, hc, hd]
          exact w₁ _ _ ⟨rfl, rfl⟩
        | again c' =>
          dsimp only at h
          cases q : c'.quiet with
          | false => rw [q] at h; cases h
          | true =>
            refine Classical.byContradiction fun hG3 => ?_
            rw [q] at h
            obtain ⟨⟨l₂, hl₂⟩, n₂, k₂⟩ := C _ _ _ _ _ _ rfl h
            refine hG3 ?_
            have both : s'.log = s.log → s₁.log = s.log ∧ s'.log = s₁.log := fun e => by
              rw [hl₂, hl₁] at e
              obtain ⟨rfl, rfl⟩ := app_nil e
              exact ⟨hl₁, hl₂⟩
            refine ⟨⟨l₂ ++ l₁, by rw [hl₂, hl₁, List.append_assoc]⟩, fun e => (n₁ (both e).1).trans (n₂ (both e).2), fun hv S R => ?_⟩
            refine Classical.byContradiction fun hG0 => ?_
            refine Classical.byContradiction fun hG4 => ?_
            obtain ⟨S₁, R₁, st₁, sy₁, w₁⟩ := k₁ (fun x hx => hv x (by rw [hl₂]; exact List.mem_append_right _ hx)) S R
            obtain ⟨S₂, R₂, st₂, sy₂, w₂⟩ := k₂ hv S₁ R₁
            refine hG4 ?_
            refine hG0 ?_
            refine ⟨S₂, R₂, st₁.trans st₂, fun e => (sy₁ (both e).1).trans (n₁ (both e).1) (sy₂ (both e).2), ?_⟩
            rw [wpCode_iff_wp, hc, hd]
            exact w₁ _ _ ⟨q, w₂⟩

theorem both_ok {M : Model} (hM : M.prog = prog) (hw : M.w = w) (hd : M.den = den) (n : Nat) : GsOk M orc orN orT (both den prog w hole orc orN orT n).gs ∧ GcOk M orc orN orT (both den prog w hole orc orN orT n).gc := by
  induction n with
  | zero => exact ⟨fun _ _ _ _ _ _ _ h => (nomatch h), fun _ _ _ _ _ _ _ h => (nomatch h)⟩
  | succ n ih => exact ⟨stepGs_ok hM hw ih.1 ih.2, stepGc_ok hd ih.1 ih.2⟩
end
end Tk2

namespace Tk
open PySem PySem.W
noncomputable section

noncomputable abbrev pw : Program := PySem.Challenge.pw_tk0120_01
noncomputable def stAt (i : Nat) : Stmt := pw.main.body.getD i (.Pass default)
noncomputable def bodyOf : Stmt → List Stmt
  | .FunctionDef _ _ b _ _ _ _ _ _ _ => b
  | .ClassDef _ _ _ b _ _ _ _ _ _ _ => b
  | _ => []
noncomputable def argsOf : Stmt → Arguments
  | .FunctionDef _ a _ _ _ _ _ _ _ _ => a
  | _ => ⟨[], [], none, [], [], none, []⟩
noncomputable def scopeOf : Stmt → Scope
  | .FunctionDef _ _ _ _ _ _ s _ _ _ => s
  | .ClassDef _ _ _ _ _ _ s _ _ _ _ => s
  | _ => ⟨.module, [], false, false, []⟩
noncomputable def valueOf : Stmt → Expr
  | .Return (some e) _ => e
  | .Assign _ e _ => e
  | _ => .Constant .none 0 default
noncomputable abbrev denF : Code → Sem Fin := PySem.W.Fast.tw11892475500146522536 PySem.W.Fast.tw14364793385576792824
theorem denF_eq : denote table = denF := by
  show denote table = PySem.W.Fast.tw11892475500146522536 PySem.W.Fast.tw14364793385576792824
  rw [← PySem.W.Fast.te11892475500146522536, ← PySem.W.Fast.te14364793385576792824, table_eq_tree]

noncomputable def prices : List Int := [128, 103, 91, 84, 78, 73, 69, 66, 63, 61, 58, 56, 54, 52, 51, 49, 48, 46, 45, 44, 43, 42, 41, 40, 39, 38, 37, 36, 35, 34, 34, 33, 32, 31, 31, 30, 29, 29, 28, 28, 27, 26, 26, 25, 25, 24, 24, 23, 23, 22, 22, 22, 21, 21, 20, 20, 19, 19, 19, 18, 18, 17, 17, 17, 16, 16, 16, 15, 15, 15, 14, 14, 14, 13, 13, 13, 12, 12, 12, 11, 11, 11, 11, 10, 10, 10, 10, 9, 9, 9, 9, 8, 8, 8, 8, 7, 7, 7, 7, 6, 6, 6, 6, 5, 5, 5, 5, 5, 4, 4, 4, 4, 3, 3, 3, 3, 3, 2, 2, 2, 2, 2, 2, 1, 1, 1, 1, 1]
noncomputable def o2 : Obj := ⟨.none, none, .dict #[] 0, #[]⟩
noncomputable def o3 (P : Params) : Obj := ⟨.type "dict", none, .dict #[
  ⟨PyData.keyHash P (Str.ofString "__name__"), .str (Str.ofString "__name__") 165, .str (Str.ofString "threepress.rangecoder") 288⟩,
  ⟨PyData.keyHash P (Str.ofString "__doc__"), .str (Str.ofString "__doc__") 166, .none⟩,
  ⟨PyData.keyHash P (Str.ofString "__package__"), .str (Str.ofString "__package__") 167, .none⟩,
  ⟨PyData.keyHash P (Str.ofString "__loader__"), .str (Str.ofString "__loader__") 168, .builtin "__main__.__loader__#opaque"⟩,
  ⟨PyData.keyHash P (Str.ofString "__spec__"), .str (Str.ofString "__spec__") 169, .none⟩,
  ⟨PyData.keyHash P (Str.ofString "__annotations__"), .str (Str.ofString "__annotations__") 170, .ref 6⟩,
  ⟨PyData.keyHash P (Str.ofString "__builtins__"), .str (Str.ofString "__builtins__") 171, .ref 4⟩,
  ⟨PyData.keyHash P (Str.ofString "__file__"), .str (Str.ofString "__file__") 173, .str (Str.ofString "/claim/cut.py") 172⟩,
  ⟨PyData.keyHash P (Str.ofString "__cached__"), .str (Str.ofString "__cached__") 174, .none⟩,
  ⟨PyData.keyHash P (Str.ofString "_wall"), .str (Str.ofString "_wall") 193, .ref 21⟩,
  ⟨PyData.keyHash P (Str.ofString "PressError"), .str (Str.ofString "PressError") 223, .ref 39⟩,
  ⟨PyData.keyHash P (Str.ofString "CutShort"), .str (Str.ofString "CutShort") 239, .ref 52⟩,
  ⟨PyData.keyHash P (Str.ofString "BadCode"), .str (Str.ofString "BadCode") 255, .ref 64⟩,
  ⟨PyData.keyHash P (Str.ofString "BadHeader"), .str (Str.ofString "BadHeader") 271, .ref 76⟩,
  ⟨PyData.keyHash P (Str.ofString "BadArgument"), .str (Str.ofString "BadArgument") 287, .ref 88⟩,
  ⟨PyData.keyHash P (Str.ofString "MODEL_BITS"), .str (Str.ofString "MODEL_BITS") 291, .int 11 290⟩,
  ⟨PyData.keyHash P (Str.ofString "TOTAL"), .str (Str.ofString "TOTAL") 294, .int 2048 293⟩,
  ⟨PyData.keyHash P (Str.ofString "LEARN"), .str (Str.ofString "LEARN") 296, .int 5 295⟩,
  ⟨PyData.keyHash P (Str.ofString "LEAST_MODEL"), .str (Str.ofString "LEAST_MODEL") 301, .int 31 300⟩,
  ⟨PyData.keyHash P (Str.ofString "LEAST_SPAN"), .str (Str.ofString "LEAST_SPAN") 305, .int 16777216 304⟩,
  ⟨PyData.keyHash P (Str.ofString "MOST_SPAN"), .str (Str.ofString "MOST_SPAN") 311, .int 4294967295 310⟩,
  ⟨PyData.keyHash P (Str.ofString "CARRY"), .str (Str.ofString "CARRY") 315, .int 4294967296 314⟩,
  ⟨PyData.keyHash P (Str.ofString "MAY_CARRY"), .str (Str.ofString "MAY_CARRY") 319, .int 4278190080 318⟩,
  ⟨PyData.keyHash P (Str.ofString "FLUSHED"), .str (Str.ofString "FLUSHED") 321, .int 5 320⟩,
  ⟨PyData.keyHash P (Str.ofString "PRICE_STEPS"), .str (Str.ofString "PRICE_STEPS") 323, .int 4 322⟩,
  ⟨PyData.keyHash P (Str.ofString "BIT_PRICE"), .str (Str.ofString "BIT_PRICE") 326, .int 16 325⟩,
  ⟨PyData.keyHash P (Str.ofString "CELL_BITS"), .str (Str.ofString "CELL_BITS") 328, .int 4 327⟩,
  ⟨PyData.keyHash P (Str.ofString "next_model"), .str (Str.ofString "next_model") 336, .ref 97⟩,
  ⟨PyData.keyHash P (Str.ofString "need_model"), .str (Str.ofString "need_model") 343, .ref 104⟩,
  ⟨PyData.keyHash P (Str.ofString "need_bit"), .str (Str.ofString "need_bit") 350, .ref 111⟩,
  ⟨PyData.keyHash P (Str.ofString "RangeReader"), .str (Str.ofString "RangeReader") 463, .ref 192⟩,
  ⟨PyData.keyHash P (Str.ofString "RangeWriter"), .str (Str.ofString "RangeWriter") 576, .ref 276⟩,
  ⟨PyData.keyHash P (Str.ofString "price_of"), .str (Str.ofString "price_of") 586, .ref 287⟩,
  ⟨PyData.keyHash P (Str.ofString "price_rows"), .str (Str.ofString "price_rows") 592, .ref 292⟩] 34, #[]⟩
noncomputable def o286 : Obj := ⟨.type "code", none, .fields #[.str (Str.ofString "price_of") 577, .str (Str.ofString "price_of") 578, .str (Str.ofString "/claim/cut.py") 579, .int 160 0, .int 1 0, .int 0 0, .int 0 0, .int 3 0, .ref 281, .bool true, .int 181 0, .ref 282, .none, .ref 283, .ref 284, .ref 285, .int 584 0, .int 160 0, .str (Str.ofString "/claim/cut.py") 585], #[]⟩
noncomputable def f287 : FuncData := { name := Str.ofString "price_of", qualname := Str.ofString "price_of", params := argsOf (stAt 25), body := .stmts (bodyOf (stAt 25)), scope := scopeOf (stAt 25), globals := 3, closure := [], defaults := .none, kwdefaults := .none, doc := .none, pyModule := .str (Str.ofString "threepress.rangecoder") 288, annotations := none, code := .ref 286, closureTuple := .none, builtins := 0 }
noncomputable def o287 : Obj := ⟨.type "function", none, .func f287, #[]⟩
noncomputable def o301 : Obj := ⟨.type "cell", none, .cell (some (.int 8 608)), #[]⟩
noncomputable def o303 (k : Nat) : Obj := ⟨.type "range_iterator", none, .fields #[.int k 0, .int (128 - k : Nat) 0, .int 1 0], #[]⟩
noncomputable def accOf : List Int → Nat → List Value
  | [], _ => []
  | x :: r, t => .int x t :: accOf r (t + 72)
noncomputable def o304 (k : Nat) : Obj := ⟨.type "list", none, .seq ⟨accOf (prices.take k) 683⟩ k, #[]⟩
noncomputable def o305 (P : Params) : Nat → Obj
  | 0 => ⟨.type "dict", none, .dict #[] 0, #[]⟩
  | k + 1 => ⟨.type "dict", none, .dict #[⟨PyData.keyHash P (Str.ofString "cell"), .str (Str.ofString "cell") 613, .int k (612 + 72 * k)⟩] 1, #[]⟩
noncomputable def mkT : List (Addr × Obj) → OT
  | [] => .nil
  | x :: r => (mkT r).put 16 x.1 (some x.2)
noncomputable def lJ (P : Params) (k : Nat) : List (Addr × Obj) := [(0, boot_o_0 P), (2, o2), (3, o3 P), (286, o286), (287, o287), (301, o301), (303, o303 k), (304, o304 k), (305, o305 P k)]
noncomputable def sJ (P : Params) (k : Nat) : PS := ⟨mkT (lJ P k), 306 + 25 * k, 612 + 72 * k, []⟩
noncomputable def eC : Expr := valueOf ((bodyOf (stAt 26)).getD 1 (.Pass default))
noncomputable def scopeC : Expr → Scope
  | .ListComp _ _ s _ => s
  | _ => ⟨.module, [], false, false, []⟩
noncomputable def env1 : Env := { scope := scopeOf (stAt 26), locals := 300, globals := 3, cells := [(Str.ofString "middle", 301)], qual := Str.ofString "price_rows.<locals>.", func := some 292, code := .ref 291, frame := some 300, builtins := 0 }
noncomputable def env2 : Env := { scope := { scopeC eC with names := (scopeC eC).names.map fun (n, k) => if k == .free then (n, .cell) else (n, k) }, locals := 305, globals := 3, cells := [(Str.ofString "middle", 301)], qual := Str.ofString "price_rows.<locals>.", func := none, code := .ref 291, frame := some 300, builtins := 0 }
noncomputable def env3 : Env := { scope := scopeOf (stAt 27), locals := 295, globals := 3, cells := [], qual := Str.ofString "PriceRows.", func := none, code := .ref 298, frame := some 299, builtins := 0 }
noncomputable def env0 : Env := { scope := pw.main.scope, locals := 3, globals := 3, cells := [], code := .ref 13, frame := some 14 }
noncomputable def cC : Code := .compLoop eC 0 (.ref 303) (.ref 304) env2
noncomputable def pA : Pos := ⟨172, 63, 172, 88⟩
noncomputable def pB : Pos := ⟨172, 12, 172, 50⟩
noncomputable def gC : Ctx := ⟨cC, none, none, [(.func (bodyOf (stAt 26)) env1, pA), (.body (bodyOf (stAt 27)) env3, ⟨174, 11, 174, 23⟩), (.body pw.main.body env0, ⟨173, 0, 174, 23⟩), (.builtin "claim.caller" {}, default)], none⟩

section
variable (den : Code → Sem Fin) (prog : Program) (w : World) (fuel : Nat)
/-- so many turns of a loop -/
noncomputable def turnN : Nat → Ctx → Pos → Code → PS → Option (Ctx × Pos × Code × PS)
  | 0, Γ, p, c, s => some (Γ, p, c, s)
  | k + 1, Γ, p, c, s => match (both den prog w (fun _ => false) id 0 0 fuel).gs Γ p (den c) s with
    | some (.ok (.again c'), p', s') => match c'.quiet with
      | true => turnN k (Γ.goto c') p' c' s'
      | false => none
    | _ => none
end
noncomputable abbrev turns (w : World) (k j : Nat) (p : Pos) := (turnN denF pw w 1000 j gC p cC (sJ w.params k)).map fun x => (x.1, x.2.1, x.2.2.1, x.2.2.2.n, x.2.2.2.toks, x.2.2.2.log.length, (lJ w.params (k + j)).map fun y => x.2.2.2.tree.get y.1)
noncomputable abbrev after (w : World) (k : Nat) : Option (Ctx × Pos × Code × Nat × Nat × Nat × List (Option Obj)) := some (gC, pB, cC, 306 + 25 * k, 612 + 72 * k, 0, (lJ w.params k).map fun y => some y.2)
noncomputable abbrev wr (w : World) (b : Bool) : World := w.withFollow "special-get-raises" b
end
end Tk

namespace Tk
open PySem PySem.W
noncomputable section
noncomputable def stIn (i j : Nat) : Stmt := (bodyOf (stAt i)).getD j (.Pass default)
noncomputable def F2 : Obj := ⟨.none, none, .dict #[] 0, #[]⟩
noncomputable def F3 (P : Params) : Obj := ⟨(.type "dict"), none, .dict #[⟨PyData.keyHash P (Str.ofString "__name__"), (.str (Str.ofString "__name__") 165), (.str (Str.ofString "law_tk0120_01") 9854)⟩, ⟨PyData.keyHash P (Str.ofString "__doc__"), (.str (Str.ofString "__doc__") 166), .none⟩, ⟨PyData.keyHash P (Str.ofString "__package__"), (.str (Str.ofString "__package__") 167), .none⟩, ⟨PyData.keyHash P (Str.ofString "__loader__"), (.str (Str.ofString "__loader__") 168), (.builtin "__main__.__loader__#opaque")⟩, ⟨PyData.keyHash P (Str.ofString "__spec__"), (.str (Str.ofString "__spec__") 169), .none⟩, ⟨PyData.keyHash P (Str.ofString "__annotations__"), (.str (Str.ofString "__annotations__") 170), (.ref 6)⟩, ⟨PyData.keyHash P (Str.ofString "__builtins__"), (.str (Str.ofString "__builtins__") 171), (.ref 4)⟩, ⟨PyData.keyHash P (Str.ofString "__file__"), (.str (Str.ofString "__file__") 173), (.str (Str.ofString "/claim/cut.py") 172)⟩, ⟨PyData.keyHash P (Str.ofString "__cached__"), (.str (Str.ofString "__cached__") 174), .none⟩, ⟨PyData.keyHash P (Str.ofString "_wall"), (.str (Str.ofString "_wall") 193), (.ref 21)⟩, ⟨PyData.keyHash P (Str.ofString "PressError"), (.str (Str.ofString "PressError") 223), (.ref 39)⟩, ⟨PyData.keyHash P (Str.ofString "CutShort"), (.str (Str.ofString "CutShort") 239), (.ref 52)⟩, ⟨PyData.keyHash P (Str.ofString "BadCode"), (.str (Str.ofString "BadCode") 255), (.ref 64)⟩, ⟨PyData.keyHash P (Str.ofString "BadHeader"), (.str (Str.ofString "BadHeader") 271), (.ref 76)⟩, ⟨PyData.keyHash P (Str.ofString "BadArgument"), (.str (Str.ofString "BadArgument") 287), (.ref 88)⟩, ⟨PyData.keyHash P (Str.ofString "MODEL_BITS"), (.str (Str.ofString "MODEL_BITS") 291), (.int 11 290)⟩, ⟨PyData.keyHash P (Str.ofString "TOTAL"), (.str (Str.ofString "TOTAL") 294), (.int 2048 293)⟩, ⟨PyData.keyHash P (Str.ofString "LEARN"), (.str (Str.ofString "LEARN") 296), (.int 5 295)⟩, ⟨PyData.keyHash P (Str.ofString "LEAST_MODEL"), (.str (Str.ofString "LEAST_MODEL") 301), (.int 31 300)⟩, ⟨PyData.keyHash P (Str.ofString "LEAST_SPAN"), (.str (Str.ofString "LEAST_SPAN") 305), (.int 16777216 304)⟩, ⟨PyData.keyHash P (Str.ofString "MOST_SPAN"), (.str (Str.ofString "MOST_SPAN") 311), (.int 4294967295 310)⟩, ⟨PyData.keyHash P (Str.ofString "CARRY"), (.str (Str.ofString "CARRY") 315), (.int 4294967296 314)⟩, ⟨PyData.keyHash P (Str.ofString "MAY_CARRY"), (.str (Str.ofString "MAY_CARRY") 319), (.int 4278190080 318)⟩, ⟨PyData.keyHash P (Str.ofString "FLUSHED"), (.str (Str.ofString "FLUSHED") 321), (.int 5 320)⟩, ⟨PyData.keyHash P (Str.ofString "PRICE_STEPS"), (.str (Str.ofString "PRICE_STEPS") 323), (.int 4 322)⟩, ⟨PyData.keyHash P (Str.ofString "BIT_PRICE"), (.str (Str.ofString "BIT_PRICE") 326), (.int 16 325)⟩, ⟨PyData.keyHash P (Str.ofString "CELL_BITS"), (.str (Str.ofString "CELL_BITS") 328), (.int 4 327)⟩, ⟨PyData.keyHash P (Str.ofString "next_model"), (.str (Str.ofString "next_model") 336), (.ref 97)⟩, ⟨PyData.keyHash P (Str.ofString "need_model"), (.str (Str.ofString "need_model") 343), (.ref 104)⟩, ⟨PyData.keyHash P (Str.ofString "need_bit"), (.str (Str.ofString "need_bit") 350), (.ref 111)⟩, ⟨PyData.keyHash P (Str.ofString "RangeReader"), (.str (Str.ofString "RangeReader") 463), (.ref 192)⟩, ⟨PyData.keyHash P (Str.ofString "RangeWriter"), (.str (Str.ofString "RangeWriter") 576), (.ref 276)⟩, ⟨PyData.keyHash P (Str.ofString "price_of"), (.str (Str.ofString "price_of") 586), (.ref 287)⟩, ⟨PyData.keyHash P (Str.ofString "price_rows"), (.str (Str.ofString "price_rows") 592), (.ref 292)⟩, ⟨PyData.keyHash P (Str.ofString "PriceRows"), (.str (Str.ofString "PriceRows") 9836), (.ref 3510)⟩, ⟨PyData.keyHash P (Str.ofString "bit_price"), (.str (Str.ofString "bit_price") 9845), (.ref 3521)⟩, ⟨PyData.keyHash P (Str.ofString "exact_price"), (.str (Str.ofString "exact_price") 9853), (.ref 3528)⟩, ⟨PyData.keyHash P (Str.ofString "_law_jar"), (.str (Str.ofString "_law_jar") 9865), (.ref 3535)⟩, ⟨PyData.keyHash P (Str.ofString "_law_take"), (.str (Str.ofString "_law_take") 9874), (.ref 3542)⟩, ⟨PyData.keyHash P (Str.ofString "_law_models"), (.str (Str.ofString "_law_models") 9885), (.ref 3549)⟩, ⟨PyData.keyHash P (Str.ofString "_law_bits"), (.str (Str.ofString "_law_bits") 9891), (.ref 3554)⟩, ⟨PyData.keyHash P (Str.ofString "_law_turns"), (.str (Str.ofString "_law_turns") 9901), (.ref 3561)⟩, ⟨PyData.keyHash P (Str.ofString "_law_led"), (.str (Str.ofString "_law_led") 9910), (.ref 3568)⟩, ⟨PyData.keyHash P (Str.ofString "_law_gap_right"), (.str (Str.ofString "_law_gap_right") 9923), (.ref 3575)⟩, ⟨PyData.keyHash P (Str.ofString "_law_order_right"), (.str (Str.ofString "_law_order_right") 9935), (.ref 3582)⟩, ⟨PyData.keyHash P (Str.ofString "_law_run_right"), (.str (Str.ofString "_law_run_right") 9941), (.ref 3587)⟩, ⟨PyData.keyHash P (Str.ofString "_law_coder_right"), (.str (Str.ofString "_law_coder_right") 9947), (.ref 3592)⟩, ⟨PyData.keyHash P (Str.ofString "law"), (.str (Str.ofString "law") 9958), (.ref 3599)⟩] 48, #[]⟩
noncomputable def F11 : Obj := ⟨(.type "tuple"), none, .seq #[] 0, #[]⟩
noncomputable def F12 : Obj := ⟨.none, none, .fields #[(.int 1 0), (.int 0 0), (.ref 20), (.int 5 0), (.int 0 0), (.ref 27), (.int 10 0), (.int 0 0), (.ref 48), (.int 12 0), (.int 0 0), (.ref 60), (.int 14 0), (.int 0 0), (.ref 72), (.int 16 0), (.int 0 0), (.ref 84), (.int 31 0), (.int 0 0), (.ref 96), (.int 35 0), (.int 0 0), (.ref 103), (.int 38 0), (.int 0 0), (.ref 110), (.int 41 0), (.int 0 0), (.ref 117), (.int 100 0), (.int 0 0), (.ref 202), (.int 160 0), (.int 0 0), (.ref 286), (.int 170 0), (.int 0 0), (.ref 291), (.int 173 0), (.int 0 0), (.ref 298), (.int 175 0), (.int 0 0), (.ref 3520), (.int 178 0), (.int 0 0), (.ref 3527), (.int 183 0), (.int 0 0), (.ref 3534), (.int 191 0), (.int 0 0), (.ref 3541), (.int 198 0), (.int 0 0), (.ref 3548), (.int 212 0), (.int 0 0), (.ref 3553), (.int 218 0), (.int 0 0), (.ref 3560), (.int 225 0), (.int 0 0), (.ref 3567), (.int 229 0), (.int 0 0), (.ref 3574), (.int 240 0), (.int 0 0), (.ref 3581), (.int 248 0), (.int 0 0), (.ref 3586), (.int 260 0), (.int 0 0), (.ref 3591), (.int 280 0), (.int 0 0), (.ref 3598)], #[]⟩
noncomputable def F13 : Obj := ⟨(.type "code"), none, .fields #[(.str (Str.ofString "<module>") 182), (.str (Str.ofString "<module>") 183), (.str (Str.ofString "/claim/cut.py") 184), (.int 1 0), (.int 0 0), (.int 0 0), (.int 0 0), (.int 0 0), (.ref 11), (.bool false), (.int 181 0), (.ref 12), .none, .none, .none, .none, (.int 185 0), (.int 1 0), (.str (Str.ofString "/claim/cut.py") 186)], #[]⟩
noncomputable def F14 : Obj := ⟨(.type "frame"), none, .plain, #[(some (.ref 13)), (some (.ref 3)), (some (.ref 3)), none, (some (.str (Str.ofString "__main__") 164)), none, (some (.ref 0))]⟩
noncomputable def F96 : Obj := ⟨(.type "code"), none, .fields #[(.str (Str.ofString "next_model") 329), (.str (Str.ofString "next_model") 330), (.str (Str.ofString "/claim/cut.py") 331), (.int 31 0), (.int 2 0), (.int 0 0), (.int 0 0), (.int 3 0), (.ref 91), (.bool true), (.int 181 0), (.ref 92), .none, (.ref 93), (.ref 94), (.ref 95), (.int 334 0), (.int 31 0), (.str (Str.ofString "/claim/cut.py") 335)], #[]⟩
noncomputable def F97 : Obj := ⟨(.type "function"), none, .func { name := (Str.ofString "next_model"), qualname := (Str.ofString "next_model"), params := argsOf (stAt 20), body := .stmts (bodyOf (stAt 20)), scope := scopeOf (stAt 20), globals := 3, closure := [], defaults := .none, kwdefaults := .none, doc := .none, pyModule := (.str (Str.ofString "threepress.rangecoder") 288), annotations := none, code := (.ref 96), closureTuple := .none, builtins := 0 }, #[]⟩
noncomputable def F103 : Obj := ⟨(.type "code"), none, .fields #[(.str (Str.ofString "need_model") 337), (.str (Str.ofString "need_model") 338), (.str (Str.ofString "/claim/cut.py") 339), (.int 35 0), (.int 1 0), (.int 0 0), (.int 0 0), (.int 3 0), (.ref 98), (.bool true), (.int 181 0), (.ref 99), .none, (.ref 100), (.ref 101), (.ref 102), (.int 341 0), (.int 35 0), (.str (Str.ofString "/claim/cut.py") 342)], #[]⟩
noncomputable def F104 : Obj := ⟨(.type "function"), none, .func { name := (Str.ofString "need_model"), qualname := (Str.ofString "need_model"), params := argsOf (stAt 21), body := .stmts (bodyOf (stAt 21)), scope := scopeOf (stAt 21), globals := 3, closure := [], defaults := .none, kwdefaults := .none, doc := .none, pyModule := (.str (Str.ofString "threepress.rangecoder") 288), annotations := none, code := (.ref 103), closureTuple := .none, builtins := 0 }, #[]⟩
noncomputable def F110 : Obj := ⟨(.type "code"), none, .fields #[(.str (Str.ofString "need_bit") 344), (.str (Str.ofString "need_bit") 345), (.str (Str.ofString "/claim/cut.py") 346), (.int 38 0), (.int 1 0), (.int 0 0), (.int 0 0), (.int 3 0), (.ref 105), (.bool true), (.int 181 0), (.ref 106), .none, (.ref 107), (.ref 108), (.ref 109), (.int 348 0), (.int 38 0), (.str (Str.ofString "/claim/cut.py") 349)], #[]⟩
noncomputable def F111 : Obj := ⟨(.type "function"), none, .func { name := (Str.ofString "need_bit"), qualname := (Str.ofString "need_bit"), params := argsOf (stAt 22), body := .stmts (bodyOf (stAt 22)), scope := scopeOf (stAt 22), globals := 3, closure := [], defaults := .none, kwdefaults := .none, doc := .none, pyModule := (.str (Str.ofString "threepress.rangecoder") 288), annotations := none, code := (.ref 110), closureTuple := .none, builtins := 0 }, #[]⟩
noncomputable def F119 : Obj := ⟨(.type "tuple"), none, .seq #[(.int 0 363), .none] 0, #[]⟩
noncomputable def F125 : Obj := ⟨(.type "code"), none, .fields #[(.str (Str.ofString "__init__") 364), (.str (Str.ofString "RangeReader.__init__") 365), (.str (Str.ofString "/claim/cut.py") 366), (.int 43 0), (.int 4 0), (.int 0 0), (.int 0 0), (.int 3 0), (.ref 120), (.bool true), (.int 181 0), (.ref 121), .none, (.ref 122), (.ref 123), (.ref 124), (.int 372 0), (.int 43 0), (.str (Str.ofString "/claim/cut.py") 373)], #[]⟩
noncomputable def F126 : Obj := ⟨(.type "function"), none, .func { name := (Str.ofString "__init__"), qualname := (Str.ofString "RangeReader.__init__"), params := argsOf (stIn 23 0), body := .stmts (bodyOf (stIn 23 0)), scope := scopeOf (stIn 23 0), globals := 3, closure := [], defaults := (.ref 119), kwdefaults := .none, doc := .none, pyModule := (.str (Str.ofString "threepress.rangecoder") 288), annotations := none, code := (.ref 125), closureTuple := .none, builtins := 0 }, #[]⟩
noncomputable def F132 : Obj := ⟨(.type "code"), none, .fields #[(.str (Str.ofString "octet") 375), (.str (Str.ofString "RangeReader.octet") 376), (.str (Str.ofString "/claim/cut.py") 377), (.int 59 0), (.int 1 0), (.int 0 0), (.int 0 0), (.int 3 0), (.ref 127), (.bool true), (.int 181 0), (.ref 128), .none, (.ref 129), (.ref 130), (.ref 131), (.int 379 0), (.int 59 0), (.str (Str.ofString "/claim/cut.py") 380)], #[]⟩
noncomputable def F133 : Obj := ⟨(.type "function"), none, .func { name := (Str.ofString "octet"), qualname := (Str.ofString "RangeReader.octet"), params := argsOf (stIn 23 1), body := .stmts (bodyOf (stIn 23 1)), scope := scopeOf (stIn 23 1), globals := 3, closure := [], defaults := .none, kwdefaults := .none, doc := .none, pyModule := (.str (Str.ofString "threepress.rangecoder") 288), annotations := none, code := (.ref 132), closureTuple := .none, builtins := 0 }, #[]⟩
noncomputable def F153 : Obj := ⟨(.type "code"), none, .fields #[(.str (Str.ofString "ended") 396), (.str (Str.ofString "RangeReader.ended") 397), (.str (Str.ofString "/claim/cut.py") 398), (.int 71 0), (.int 1 0), (.int 0 0), (.int 0 0), (.int 3 0), (.ref 148), (.bool true), (.int 181 0), (.ref 149), .none, (.ref 150), (.ref 151), (.ref 152), (.int 400 0), (.int 71 0), (.str (Str.ofString "/claim/cut.py") 401)], #[]⟩
noncomputable def F154 : Obj := ⟨(.type "function"), none, .func { name := (Str.ofString "ended"), qualname := (Str.ofString "RangeReader.ended"), params := argsOf (stIn 23 4), body := .stmts (bodyOf (stIn 23 4)), scope := scopeOf (stIn 23 4), globals := 3, closure := [], defaults := .none, kwdefaults := .none, doc := .none, pyModule := (.str (Str.ofString "threepress.rangecoder") 288), annotations := none, code := (.ref 153), closureTuple := .none, builtins := 0 }, #[]⟩
noncomputable def F160 : Obj := ⟨(.type "code"), none, .fields #[(.str (Str.ofString "fill") 403), (.str (Str.ofString "RangeReader.fill") 404), (.str (Str.ofString "/claim/cut.py") 405), (.int 74 0), (.int 1 0), (.int 0 0), (.int 0 0), (.int 3 0), (.ref 155), (.bool true), (.int 181 0), (.ref 156), .none, (.ref 157), (.ref 158), (.ref 159), (.int 407 0), (.int 74 0), (.str (Str.ofString "/claim/cut.py") 408)], #[]⟩
noncomputable def F161 : Obj := ⟨(.type "function"), none, .func { name := (Str.ofString "fill"), qualname := (Str.ofString "RangeReader.fill"), params := argsOf (stIn 23 5), body := .stmts (bodyOf (stIn 23 5)), scope := scopeOf (stIn 23 5), globals := 3, closure := [], defaults := .none, kwdefaults := .none, doc := .none, pyModule := (.str (Str.ofString "threepress.rangecoder") 288), annotations := none, code := (.ref 160), closureTuple := .none, builtins := 0 }, #[]⟩
noncomputable def F167 : Obj := ⟨(.type "code"), none, .fields #[(.str (Str.ofString "bit") 410), (.str (Str.ofString "RangeReader.bit") 411), (.str (Str.ofString "/claim/cut.py") 412), (.int 79 0), (.int 3 0), (.int 0 0), (.int 0 0), (.int 3 0), (.ref 162), (.bool true), (.int 181 0), (.ref 163), .none, (.ref 164), (.ref 165), (.ref 166), (.int 419 0), (.int 79 0), (.str (Str.ofString "/claim/cut.py") 420)], #[]⟩
noncomputable def F168 : Obj := ⟨(.type "function"), none, .func { name := (Str.ofString "bit"), qualname := (Str.ofString "RangeReader.bit"), params := argsOf (stIn 23 6), body := .stmts (bodyOf (stIn 23 6)), scope := scopeOf (stIn 23 6), globals := 3, closure := [], defaults := .none, kwdefaults := .none, doc := .none, pyModule := (.str (Str.ofString "threepress.rangecoder") 288), annotations := none, code := (.ref 167), closureTuple := .none, builtins := 0 }, #[]⟩
noncomputable def F191 (P : Params) : Obj := ⟨(.type "dict"), none, .dict #[⟨PyData.keyHash P (Str.ofString "__module__"), (.str (Str.ofString "__module__") 358), (.str (Str.ofString "threepress.rangecoder") 288)⟩, ⟨PyData.keyHash P (Str.ofString "__firstlineno__"), (.str (Str.ofString "__firstlineno__") 362), (.int 41 361)⟩, ⟨PyData.keyHash P (Str.ofString "__init__"), (.str (Str.ofString "__init__") 374), (.ref 126)⟩, ⟨PyData.keyHash P (Str.ofString "octet"), (.str (Str.ofString "octet") 381), (.ref 133)⟩, ⟨PyData.keyHash P (Str.ofString "used"), (.str (Str.ofString "used") 388), (.ref 140)⟩, ⟨PyData.keyHash P (Str.ofString "left"), (.str (Str.ofString "left") 395), (.ref 147)⟩, ⟨PyData.keyHash P (Str.ofString "ended"), (.str (Str.ofString "ended") 402), (.ref 154)⟩, ⟨PyData.keyHash P (Str.ofString "fill"), (.str (Str.ofString "fill") 409), (.ref 161)⟩, ⟨PyData.keyHash P (Str.ofString "bit"), (.str (Str.ofString "bit") 421), (.ref 168)⟩, ⟨PyData.keyHash P (Str.ofString "direct"), (.str (Str.ofString "direct") 429), (.ref 175)⟩, ⟨PyData.keyHash P (Str.ofString "tree"), (.str (Str.ofString "tree") 439), (.ref 182)⟩, ⟨PyData.keyHash P (Str.ofString "reverse"), (.str (Str.ofString "reverse") 449), (.ref 189)⟩, ⟨PyData.keyHash P (Str.ofString "__static_attributes__"), (.str (Str.ofString "__static_attributes__") 456), (.ref 190)⟩, ⟨PyData.keyHash P (Str.ofString "__dict__"), (.str (Str.ofString "__dict__") 458), (.ref 193)⟩, ⟨PyData.keyHash P (Str.ofString "__weakref__"), (.str (Str.ofString "__weakref__") 460), (.ref 194)⟩, ⟨PyData.keyHash P (Str.ofString "__doc__"), (.str (Str.ofString "__doc__") 461), .none⟩] 4, #[]⟩
noncomputable def F192 : Obj := ⟨(.type "type"), none, .cls { name := (Str.ofString "RangeReader"), bases := [(.type "object")], mro := [(.ref 192), (.type "object")], ns := 191, qualname := (Str.ofString "RangeReader"), hasDict := true, slotNames := [], subclasses := [], abstract := false, collection := none, hasDel := false }, #[none, none, (some (.str (Str.ofString "RangeReader") 351)), (some (.str (Str.ofString "RangeReader") 359)), (some (.builtin "object.__new__")), (some (.bool true))]⟩
noncomputable def F209 : Obj := ⟨(.type "code"), none, .fields #[(.str (Str.ofString "__init__") 476), (.str (Str.ofString "RangeWriter.__init__") 477), (.str (Str.ofString "/claim/cut.py") 478), (.int 102 0), (.int 1 0), (.int 0 0), (.int 0 0), (.int 3 0), (.ref 204), (.bool true), (.int 181 0), (.ref 205), .none, (.ref 206), (.ref 207), (.ref 208), (.int 480 0), (.int 102 0), (.str (Str.ofString "/claim/cut.py") 481)], #[]⟩
noncomputable def F210 : Obj := ⟨(.type "function"), none, .func { name := (Str.ofString "__init__"), qualname := (Str.ofString "RangeWriter.__init__"), params := argsOf (stIn 24 0), body := .stmts (bodyOf (stIn 24 0)), scope := scopeOf (stIn 24 0), globals := 3, closure := [], defaults := .none, kwdefaults := .none, doc := .none, pyModule := (.str (Str.ofString "threepress.rangecoder") 288), annotations := none, code := (.ref 209), closureTuple := .none, builtins := 0 }, #[]⟩
noncomputable def F216 : Obj := ⟨(.type "code"), none, .fields #[(.str (Str.ofString "shift") 483), (.str (Str.ofString "RangeWriter.shift") 484), (.str (Str.ofString "/claim/cut.py") 485), (.int 110 0), (.int 1 0), (.int 0 0), (.int 0 0), (.int 3 0), (.ref 211), (.bool true), (.int 181 0), (.ref 212), .none, (.ref 213), (.ref 214), (.ref 215), (.int 488 0), (.int 110 0), (.str (Str.ofString "/claim/cut.py") 489)], #[]⟩
noncomputable def F217 : Obj := ⟨(.type "function"), none, .func { name := (Str.ofString "shift"), qualname := (Str.ofString "RangeWriter.shift"), params := argsOf (stIn 24 1), body := .stmts (bodyOf (stIn 24 1)), scope := scopeOf (stIn 24 1), globals := 3, closure := [], defaults := .none, kwdefaults := .none, doc := .none, pyModule := (.str (Str.ofString "threepress.rangecoder") 288), annotations := none, code := (.ref 216), closureTuple := .none, builtins := 0 }, #[]⟩
noncomputable def F223 : Obj := ⟨(.type "code"), none, .fields #[(.str (Str.ofString "fill") 491), (.str (Str.ofString "RangeWriter.fill") 492), (.str (Str.ofString "/claim/cut.py") 493), (.int 120 0), (.int 1 0), (.int 0 0), (.int 0 0), (.int 3 0), (.ref 218), (.bool true), (.int 181 0), (.ref 219), .none, (.ref 220), (.ref 221), (.ref 222), (.int 495 0), (.int 120 0), (.str (Str.ofString "/claim/cut.py") 496)], #[]⟩
noncomputable def F224 : Obj := ⟨(.type "function"), none, .func { name := (Str.ofString "fill"), qualname := (Str.ofString "RangeWriter.fill"), params := argsOf (stIn 24 2), body := .stmts (bodyOf (stIn 24 2)), scope := scopeOf (stIn 24 2), globals := 3, closure := [], defaults := .none, kwdefaults := .none, doc := .none, pyModule := (.str (Str.ofString "threepress.rangecoder") 288), annotations := none, code := (.ref 223), closureTuple := .none, builtins := 0 }, #[]⟩
noncomputable def F230 : Obj := ⟨(.type "code"), none, .fields #[(.str (Str.ofString "need_open") 498), (.str (Str.ofString "RangeWriter.need_open") 499), (.str (Str.ofString "/claim/cut.py") 500), (.int 125 0), (.int 1 0), (.int 0 0), (.int 0 0), (.int 3 0), (.ref 225), (.bool true), (.int 181 0), (.ref 226), .none, (.ref 227), (.ref 228), (.ref 229), (.int 502 0), (.int 125 0), (.str (Str.ofString "/claim/cut.py") 503)], #[]⟩
noncomputable def F231 : Obj := ⟨(.type "function"), none, .func { name := (Str.ofString "need_open"), qualname := (Str.ofString "RangeWriter.need_open"), params := argsOf (stIn 24 3), body := .stmts (bodyOf (stIn 24 3)), scope := scopeOf (stIn 24 3), globals := 3, closure := [], defaults := .none, kwdefaults := .none, doc := .none, pyModule := (.str (Str.ofString "threepress.rangecoder") 288), annotations := none, code := (.ref 230), closureTuple := .none, builtins := 0 }, #[]⟩
noncomputable def F237 : Obj := ⟨(.type "code"), none, .fields #[(.str (Str.ofString "bit") 505), (.str (Str.ofString "RangeWriter.bit") 506), (.str (Str.ofString "/claim/cut.py") 507), (.int 129 0), (.int 4 0), (.int 0 0), (.int 0 0), (.int 3 0), (.ref 232), (.bool true), (.int 181 0), (.ref 233), .none, (.ref 234), (.ref 235), (.ref 236), (.int 514 0), (.int 129 0), (.str (Str.ofString "/claim/cut.py") 515)], #[]⟩
noncomputable def F238 : Obj := ⟨(.type "function"), none, .func { name := (Str.ofString "bit"), qualname := (Str.ofString "RangeWriter.bit"), params := argsOf (stIn 24 4), body := .stmts (bodyOf (stIn 24 4)), scope := scopeOf (stIn 24 4), globals := 3, closure := [], defaults := .none, kwdefaults := .none, doc := .none, pyModule := (.str (Str.ofString "threepress.rangecoder") 288), annotations := none, code := (.ref 237), closureTuple := .none, builtins := 0 }, #[]⟩
noncomputable def F272 : Obj := ⟨(.type "code"), none, .fields #[(.str (Str.ofString "done") 555), (.str (Str.ofString "RangeWriter.done") 556), (.str (Str.ofString "/claim/cut.py") 557), (.int 154 0), (.int 1 0), (.int 0 0), (.int 0 0), (.int 3 0), (.ref 267), (.bool true), (.int 181 0), (.ref 268), .none, (.ref 269), (.ref 270), (.ref 271), (.int 560 0), (.int 154 0), (.str (Str.ofString "/claim/cut.py") 561)], #[]⟩
noncomputable def F273 : Obj := ⟨(.type "function"), none, .func { name := (Str.ofString "done"), qualname := (Str.ofString "RangeWriter.done"), params := argsOf (stIn 24 9), body := .stmts (bodyOf (stIn 24 9)), scope := scopeOf (stIn 24 9), globals := 3, closure := [], defaults := .none, kwdefaults := .none, doc := .none, pyModule := (.str (Str.ofString "threepress.rangecoder") 288), annotations := none, code := (.ref 272), closureTuple := .none, builtins := 0 }, #[]⟩
noncomputable def F275 (P : Params) : Obj := ⟨(.type "dict"), none, .dict #[⟨PyData.keyHash P (Str.ofString "__module__"), (.str (Str.ofString "__module__") 471), (.str (Str.ofString "threepress.rangecoder") 288)⟩, ⟨PyData.keyHash P (Str.ofString "__firstlineno__"), (.str (Str.ofString "__firstlineno__") 475), (.int 100 474)⟩, ⟨PyData.keyHash P (Str.ofString "__init__"), (.str (Str.ofString "__init__") 482), (.ref 210)⟩, ⟨PyData.keyHash P (Str.ofString "shift"), (.str (Str.ofString "shift") 490), (.ref 217)⟩, ⟨PyData.keyHash P (Str.ofString "fill"), (.str (Str.ofString "fill") 497), (.ref 224)⟩, ⟨PyData.keyHash P (Str.ofString "need_open"), (.str (Str.ofString "need_open") 504), (.ref 231)⟩, ⟨PyData.keyHash P (Str.ofString "bit"), (.str (Str.ofString "bit") 516), (.ref 238)⟩, ⟨PyData.keyHash P (Str.ofString "direct"), (.str (Str.ofString "direct") 525), (.ref 245)⟩, ⟨PyData.keyHash P (Str.ofString "tree"), (.str (Str.ofString "tree") 536), (.ref 252)⟩, ⟨PyData.keyHash P (Str.ofString "reverse"), (.str (Str.ofString "reverse") 547), (.ref 259)⟩, ⟨PyData.keyHash P (Str.ofString "size"), (.str (Str.ofString "size") 554), (.ref 266)⟩, ⟨PyData.keyHash P (Str.ofString "done"), (.str (Str.ofString "done") 562), (.ref 273)⟩, ⟨PyData.keyHash P (Str.ofString "__static_attributes__"), (.str (Str.ofString "__static_attributes__") 569), (.ref 274)⟩, ⟨PyData.keyHash P (Str.ofString "__dict__"), (.str (Str.ofString "__dict__") 571), (.ref 277)⟩, ⟨PyData.keyHash P (Str.ofString "__weakref__"), (.str (Str.ofString "__weakref__") 573), (.ref 278)⟩, ⟨PyData.keyHash P (Str.ofString "__doc__"), (.str (Str.ofString "__doc__") 574), .none⟩] 4, #[]⟩
noncomputable def F276 : Obj := ⟨(.type "type"), none, .cls { name := (Str.ofString "RangeWriter"), bases := [(.type "object")], mro := [(.ref 276), (.type "object")], ns := 275, qualname := (Str.ofString "RangeWriter"), hasDict := true, slotNames := [], subclasses := [], abstract := false, collection := none, hasDel := false }, #[none, none, (some (.str (Str.ofString "RangeWriter") 464)), (some (.str (Str.ofString "RangeWriter") 472)), (some (.builtin "object.__new__")), (some (.bool true))]⟩
noncomputable def F286 : Obj := ⟨(.type "code"), none, .fields #[(.str (Str.ofString "price_of") 577), (.str (Str.ofString "price_of") 578), (.str (Str.ofString "/claim/cut.py") 579), (.int 160 0), (.int 1 0), (.int 0 0), (.int 0 0), (.int 3 0), (.ref 281), (.bool true), (.int 181 0), (.ref 282), .none, (.ref 283), (.ref 284), (.ref 285), (.int 584 0), (.int 160 0), (.str (Str.ofString "/claim/cut.py") 585)], #[]⟩
noncomputable def F287 : Obj := ⟨(.type "function"), none, .func { name := (Str.ofString "price_of"), qualname := (Str.ofString "price_of"), params := argsOf (stAt 25), body := .stmts (bodyOf (stAt 25)), scope := scopeOf (stAt 25), globals := 3, closure := [], defaults := .none, kwdefaults := .none, doc := .none, pyModule := (.str (Str.ofString "threepress.rangecoder") 288), annotations := none, code := (.ref 286), closureTuple := .none, builtins := 0 }, #[]⟩
noncomputable def F3509 (P : Params) : Obj := ⟨(.type "dict"), none, .dict #[⟨PyData.keyHash P (Str.ofString "__module__"), (.str (Str.ofString "__module__") 600), (.str (Str.ofString "threepress.rangecoder") 288)⟩, ⟨PyData.keyHash P (Str.ofString "__firstlineno__"), (.str (Str.ofString "__firstlineno__") 604), (.int 173 603)⟩, ⟨PyData.keyHash P (Str.ofString "rows"), (.str (Str.ofString "rows") 9828), (.ref 304)⟩, ⟨PyData.keyHash P (Str.ofString "__static_attributes__"), (.str (Str.ofString "__static_attributes__") 9829), (.ref 3508)⟩, ⟨PyData.keyHash P (Str.ofString "__dict__"), (.str (Str.ofString "__dict__") 9831), (.ref 3511)⟩, ⟨PyData.keyHash P (Str.ofString "__weakref__"), (.str (Str.ofString "__weakref__") 9833), (.ref 3512)⟩, ⟨PyData.keyHash P (Str.ofString "__doc__"), (.str (Str.ofString "__doc__") 9834), .none⟩] 4, #[]⟩
noncomputable def F3510 : Obj := ⟨(.type "type"), none, .cls { name := (Str.ofString "PriceRows"), bases := [(.type "object")], mro := [(.ref 3510), (.type "object")], ns := 3509, qualname := (Str.ofString "PriceRows"), hasDict := true, slotNames := [], subclasses := [], abstract := false, collection := none, hasDel := false }, #[none, none, (some (.str (Str.ofString "PriceRows") 593)), (some (.str (Str.ofString "PriceRows") 601)), (some (.builtin "object.__new__")), (some (.bool true))]⟩
noncomputable def F3520 : Obj := ⟨(.type "code"), none, .fields #[(.str (Str.ofString "bit_price") 9837), (.str (Str.ofString "bit_price") 9838), (.str (Str.ofString "/claim/cut.py") 9839), (.int 175 0), (.int 2 0), (.int 0 0), (.int 0 0), (.int 3 0), (.ref 3515), (.bool true), (.int 181 0), (.ref 3516), .none, (.ref 3517), (.ref 3518), (.ref 3519), (.int 9843 0), (.int 175 0), (.str (Str.ofString "/claim/cut.py") 9844)], #[]⟩
noncomputable def F3521 : Obj := ⟨(.type "function"), none, .func { name := (Str.ofString "bit_price"), qualname := (Str.ofString "bit_price"), params := argsOf (stAt 28), body := .stmts (bodyOf (stAt 28)), scope := scopeOf (stAt 28), globals := 3, closure := [], defaults := .none, kwdefaults := .none, doc := .none, pyModule := (.str (Str.ofString "threepress.rangecoder") 288), annotations := none, code := (.ref 3520), closureTuple := .none, builtins := 0 }, #[]⟩
noncomputable def F3527 : Obj := ⟨(.type "code"), none, .fields #[(.str (Str.ofString "exact_price") 9846), (.str (Str.ofString "exact_price") 9847), (.str (Str.ofString "/claim/cut.py") 9848), (.int 178 0), (.int 2 0), (.int 0 0), (.int 0 0), (.int 3 0), (.ref 3522), (.bool true), (.int 181 0), (.ref 3523), .none, (.ref 3524), (.ref 3525), (.ref 3526), (.int 9851 0), (.int 178 0), (.str (Str.ofString "/claim/cut.py") 9852)], #[]⟩
noncomputable def F3528 : Obj := ⟨(.type "function"), none, .func { name := (Str.ofString "exact_price"), qualname := (Str.ofString "exact_price"), params := argsOf (stAt 29), body := .stmts (bodyOf (stAt 29)), scope := scopeOf (stAt 29), globals := 3, closure := [], defaults := .none, kwdefaults := .none, doc := .none, pyModule := (.str (Str.ofString "threepress.rangecoder") 288), annotations := none, code := (.ref 3527), closureTuple := .none, builtins := 0 }, #[]⟩
noncomputable def F3534 : Obj := ⟨(.type "code"), none, .fields #[(.str (Str.ofString "_law_jar") 9856), (.str (Str.ofString "_law_jar") 9857), (.str (Str.ofString "/claim/cut.py") 9858), (.int 183 0), (.int 1 0), (.int 0 0), (.int 0 0), (.int 3 0), (.ref 3529), (.bool true), (.int 181 0), (.ref 3530), .none, (.ref 3531), (.ref 3532), (.ref 3533), (.int 9863 0), (.int 183 0), (.str (Str.ofString "/claim/cut.py") 9864)], #[]⟩
noncomputable def F3535 : Obj := ⟨(.type "function"), none, .func { name := (Str.ofString "_law_jar"), qualname := (Str.ofString "_law_jar"), params := argsOf (stAt 31), body := .stmts (bodyOf (stAt 31)), scope := scopeOf (stAt 31), globals := 3, closure := [], defaults := .none, kwdefaults := .none, doc := .none, pyModule := (.str (Str.ofString "law_tk0120_01") 9854), annotations := none, code := (.ref 3534), closureTuple := .none, builtins := 0 }, #[]⟩
noncomputable def F3541 : Obj := ⟨(.type "code"), none, .fields #[(.str (Str.ofString "_law_take") 9866), (.str (Str.ofString "_law_take") 9867), (.str (Str.ofString "/claim/cut.py") 9868), (.int 191 0), (.int 2 0), (.int 0 0), (.int 0 0), (.int 3 0), (.ref 3536), (.bool true), (.int 181 0), (.ref 3537), .none, (.ref 3538), (.ref 3539), (.ref 3540), (.int 9872 0), (.int 191 0), (.str (Str.ofString "/claim/cut.py") 9873)], #[]⟩
noncomputable def F3542 : Obj := ⟨(.type "function"), none, .func { name := (Str.ofString "_law_take"), qualname := (Str.ofString "_law_take"), params := argsOf (stAt 32), body := .stmts (bodyOf (stAt 32)), scope := scopeOf (stAt 32), globals := 3, closure := [], defaults := .none, kwdefaults := .none, doc := .none, pyModule := (.str (Str.ofString "law_tk0120_01") 9854), annotations := none, code := (.ref 3541), closureTuple := .none, builtins := 0 }, #[]⟩
noncomputable def F3548 : Obj := ⟨(.type "code"), none, .fields #[(.str (Str.ofString "_law_models") 9875), (.str (Str.ofString "_law_models") 9876), (.str (Str.ofString "/claim/cut.py") 9877), (.int 198 0), (.int 2 0), (.int 0 0), (.int 0 0), (.int 3 0), (.ref 3543), (.bool true), (.int 181 0), (.ref 3544), .none, (.ref 3545), (.ref 3546), (.ref 3547), (.int 9883 0), (.int 198 0), (.str (Str.ofString "/claim/cut.py") 9884)], #[]⟩
noncomputable def F3549 : Obj := ⟨(.type "function"), none, .func { name := (Str.ofString "_law_models"), qualname := (Str.ofString "_law_models"), params := argsOf (stAt 33), body := .stmts (bodyOf (stAt 33)), scope := scopeOf (stAt 33), globals := 3, closure := [], defaults := .none, kwdefaults := .none, doc := .none, pyModule := (.str (Str.ofString "law_tk0120_01") 9854), annotations := none, code := (.ref 3548), closureTuple := .none, builtins := 0 }, #[]⟩
noncomputable def F3553 : Obj := ⟨(.type "code"), none, .fields #[(.str (Str.ofString "_law_bits") 9886), (.str (Str.ofString "_law_bits") 9887), (.str (Str.ofString "/claim/cut.py") 9888), (.int 212 0), (.int 2 0), (.int 0 0), (.int 0 0), (.int 3 0), (.ref 3550), (.bool true), (.int 181 0), (.ref 3551), .none, .none, .none, (.ref 3552), (.int 9889 0), (.int 212 0), (.str (Str.ofString "/claim/cut.py") 9890)], #[]⟩
noncomputable def F3554 : Obj := ⟨(.type "function"), none, .func { name := (Str.ofString "_law_bits"), qualname := (Str.ofString "_law_bits"), params := argsOf (stAt 34), body := .stmts (bodyOf (stAt 34)), scope := scopeOf (stAt 34), globals := 3, closure := [], defaults := .none, kwdefaults := .none, doc := .none, pyModule := (.str (Str.ofString "law_tk0120_01") 9854), annotations := none, code := (.ref 3553), closureTuple := .none, builtins := 0 }, #[]⟩
noncomputable def F3560 : Obj := ⟨(.type "code"), none, .fields #[(.str (Str.ofString "_law_turns") 9892), (.str (Str.ofString "_law_turns") 9893), (.str (Str.ofString "/claim/cut.py") 9894), (.int 218 0), (.int 1 0), (.int 0 0), (.int 0 0), (.int 3 0), (.ref 3555), (.bool true), (.int 181 0), (.ref 3556), .none, (.ref 3557), (.ref 3558), (.ref 3559), (.int 9899 0), (.int 218 0), (.str (Str.ofString "/claim/cut.py") 9900)], #[]⟩
noncomputable def F3561 : Obj := ⟨(.type "function"), none, .func { name := (Str.ofString "_law_turns"), qualname := (Str.ofString "_law_turns"), params := argsOf (stAt 35), body := .stmts (bodyOf (stAt 35)), scope := scopeOf (stAt 35), globals := 3, closure := [], defaults := .none, kwdefaults := .none, doc := .none, pyModule := (.str (Str.ofString "law_tk0120_01") 9854), annotations := none, code := (.ref 3560), closureTuple := .none, builtins := 0 }, #[]⟩
noncomputable def F3567 : Obj := ⟨(.type "code"), none, .fields #[(.str (Str.ofString "_law_led") 9902), (.str (Str.ofString "_law_led") 9903), (.str (Str.ofString "/claim/cut.py") 9904), (.int 225 0), (.int 2 0), (.int 0 0), (.int 0 0), (.int 3 0), (.ref 3562), (.bool true), (.int 181 0), (.ref 3563), .none, (.ref 3564), (.ref 3565), (.ref 3566), (.int 9908 0), (.int 225 0), (.str (Str.ofString "/claim/cut.py") 9909)], #[]⟩
noncomputable def F3568 : Obj := ⟨(.type "function"), none, .func { name := (Str.ofString "_law_led"), qualname := (Str.ofString "_law_led"), params := argsOf (stAt 36), body := .stmts (bodyOf (stAt 36)), scope := scopeOf (stAt 36), globals := 3, closure := [], defaults := .none, kwdefaults := .none, doc := .none, pyModule := (.str (Str.ofString "law_tk0120_01") 9854), annotations := none, code := (.ref 3567), closureTuple := .none, builtins := 0 }, #[]⟩
noncomputable def F3574 : Obj := ⟨(.type "code"), none, .fields #[(.str (Str.ofString "_law_gap_right") 9911), (.str (Str.ofString "_law_gap_right") 9912), (.str (Str.ofString "/claim/cut.py") 9913), (.int 229 0), (.int 3 0), (.int 0 0), (.int 0 0), (.int 3 0), (.ref 3569), (.bool true), (.int 181 0), (.ref 3570), .none, (.ref 3571), (.ref 3572), (.ref 3573), (.int 9921 0), (.int 229 0), (.str (Str.ofString "/claim/cut.py") 9922)], #[]⟩
noncomputable def F3575 : Obj := ⟨(.type "function"), none, .func { name := (Str.ofString "_law_gap_right"), qualname := (Str.ofString "_law_gap_right"), params := argsOf (stAt 37), body := .stmts (bodyOf (stAt 37)), scope := scopeOf (stAt 37), globals := 3, closure := [], defaults := .none, kwdefaults := .none, doc := .none, pyModule := (.str (Str.ofString "law_tk0120_01") 9854), annotations := none, code := (.ref 3574), closureTuple := .none, builtins := 0 }, #[]⟩
noncomputable def F3581 : Obj := ⟨(.type "code"), none, .fields #[(.str (Str.ofString "_law_order_right") 9924), (.str (Str.ofString "_law_order_right") 9925), (.str (Str.ofString "/claim/cut.py") 9926), (.int 240 0), (.int 2 0), (.int 0 0), (.int 0 0), (.int 3 0), (.ref 3576), (.bool true), (.int 181 0), (.ref 3577), .none, (.ref 3578), (.ref 3579), (.ref 3580), (.int 9933 0), (.int 240 0), (.str (Str.ofString "/claim/cut.py") 9934)], #[]⟩
noncomputable def F3582 : Obj := ⟨(.type "function"), none, .func { name := (Str.ofString "_law_order_right"), qualname := (Str.ofString "_law_order_right"), params := argsOf (stAt 38), body := .stmts (bodyOf (stAt 38)), scope := scopeOf (stAt 38), globals := 3, closure := [], defaults := .none, kwdefaults := .none, doc := .none, pyModule := (.str (Str.ofString "law_tk0120_01") 9854), annotations := none, code := (.ref 3581), closureTuple := .none, builtins := 0 }, #[]⟩
noncomputable def F3586 : Obj := ⟨(.type "code"), none, .fields #[(.str (Str.ofString "_law_run_right") 9936), (.str (Str.ofString "_law_run_right") 9937), (.str (Str.ofString "/claim/cut.py") 9938), (.int 248 0), (.int 2 0), (.int 0 0), (.int 0 0), (.int 3 0), (.ref 3583), (.bool true), (.int 181 0), (.ref 3584), .none, .none, .none, (.ref 3585), (.int 9939 0), (.int 248 0), (.str (Str.ofString "/claim/cut.py") 9940)], #[]⟩
noncomputable def F3587 : Obj := ⟨(.type "function"), none, .func { name := (Str.ofString "_law_run_right"), qualname := (Str.ofString "_law_run_right"), params := argsOf (stAt 39), body := .stmts (bodyOf (stAt 39)), scope := scopeOf (stAt 39), globals := 3, closure := [], defaults := .none, kwdefaults := .none, doc := .none, pyModule := (.str (Str.ofString "law_tk0120_01") 9854), annotations := none, code := (.ref 3586), closureTuple := .none, builtins := 0 }, #[]⟩
noncomputable def F3591 : Obj := ⟨(.type "code"), none, .fields #[(.str (Str.ofString "_law_coder_right") 9942), (.str (Str.ofString "_law_coder_right") 9943), (.str (Str.ofString "/claim/cut.py") 9944), (.int 260 0), (.int 3 0), (.int 0 0), (.int 0 0), (.int 3 0), (.ref 3588), (.bool true), (.int 181 0), (.ref 3589), .none, .none, .none, (.ref 3590), (.int 9945 0), (.int 260 0), (.str (Str.ofString "/claim/cut.py") 9946)], #[]⟩
noncomputable def F3592 : Obj := ⟨(.type "function"), none, .func { name := (Str.ofString "_law_coder_right"), qualname := (Str.ofString "_law_coder_right"), params := argsOf (stAt 40), body := .stmts (bodyOf (stAt 40)), scope := scopeOf (stAt 40), globals := 3, closure := [], defaults := .none, kwdefaults := .none, doc := .none, pyModule := (.str (Str.ofString "law_tk0120_01") 9854), annotations := none, code := (.ref 3591), closureTuple := .none, builtins := 0 }, #[]⟩
noncomputable def F3598 : Obj := ⟨(.type "code"), none, .fields #[(.str (Str.ofString "law") 9948), (.str (Str.ofString "law") 9949), (.str (Str.ofString "/claim/cut.py") 9950), (.int 280 0), (.int 1 0), (.int 0 0), (.int 0 0), (.int 3 0), (.ref 3593), (.bool true), (.int 181 0), (.ref 3594), .none, (.ref 3595), (.ref 3596), (.ref 3597), (.int 9956 0), (.int 280 0), (.str (Str.ofString "/claim/cut.py") 9957)], #[]⟩
noncomputable def F3599 : Obj := ⟨(.type "function"), none, .func { name := (Str.ofString "law"), qualname := (Str.ofString "law"), params := argsOf (stAt 41), body := .stmts (bodyOf (stAt 41)), scope := scopeOf (stAt 41), globals := 3, closure := [], defaults := .none, kwdefaults := .none, doc := .none, pyModule := (.str (Str.ofString "law_tk0120_01") 9854), annotations := none, code := (.ref 3598), closureTuple := .none, builtins := 0 }, #[]⟩
noncomputable def finL (P : Params) : List (Addr × Obj) := [(0, boot_o_0 P),
  (1, boot_o_1 P),
  (4, boot_o_4 P),
  (5, boot_o_5 P),
  (6, boot_o_6 P),
  (7, boot_o_7 P),
  (8, boot_o_8 P),
  (9, boot_o_9 P),
  (10, boot_o_10 P),
  (2, F2),
  (3, F3 P),
  (11, F11),
  (12, F12),
  (13, F13),
  (14, F14),
  (96, F96),
  (97, F97),
  (103, F103),
  (104, F104),
  (110, F110),
  (111, F111),
  (119, F119),
  (125, F125),
  (126, F126),
  (132, F132),
  (133, F133),
  (153, F153),
  (154, F154),
  (160, F160),
  (161, F161),
  (167, F167),
  (168, F168),
  (191, F191 P),
  (192, F192),
  (209, F209),
  (210, F210),
  (216, F216),
  (217, F217),
  (223, F223),
  (224, F224),
  (230, F230),
  (231, F231),
  (237, F237),
  (238, F238),
  (272, F272),
  (273, F273),
  (275, F275 P),
  (276, F276),
  (286, F286),
  (287, F287),
  (3509, F3509 P),
  (3510, F3510),
  (3520, F3520),
  (3521, F3521),
  (3527, F3527),
  (3528, F3528),
  (3534, F3534),
  (3535, F3535),
  (3541, F3541),
  (3542, F3542),
  (3548, F3548),
  (3549, F3549),
  (3553, F3553),
  (3554, F3554),
  (3560, F3560),
  (3561, F3561),
  (3567, F3567),
  (3568, F3568),
  (3574, F3574),
  (3575, F3575),
  (3581, F3581),
  (3582, F3582),
  (3586, F3586),
  (3587, F3587),
  (3591, F3591),
  (3592, F3592),
  (3598, F3598),
  (3599, F3599),
  (304, o304 128)]
noncomputable def bootL (P : Params) : List (Addr × Obj) := [(0, boot_o_0 P), (1, boot_o_1 P), (2, boot_o_2 P), (3, boot_o_3 P), (4, boot_o_4 P), (5, boot_o_5 P), (6, boot_o_6 P), (7, boot_o_7 P), (8, boot_o_8 P), (9, boot_o_9 P), (10, boot_o_10 P)]
noncomputable def bootS (P : Params) : PS := ⟨mkT (bootL P), 11, boot_toks, []⟩
noncomputable def holeC : Code → Bool
  | .compStart .. => true
  | _ => false
noncomputable def orcT (P : Params) (t : OT) : OT := ((t.put 16 303 (some (o303 128))).put 16 304 (some (o304 128))).put 16 305 (some (o305 P 128))
noncomputable def g0 : Ctx := ⟨.builtin "claim.caller" {}, none, none, [], none⟩
noncomputable def cS : Code := .compStart eC 0 (.ref 303) (.ref 304) env2
noncomputable def gS : Ctx := { gC with code := cS }
noncomputable def run1 (w : World) := (both denF pw w holeC (orcT w.params) 3508 9828 6000).gs g0 default (topStub pw).cur (bootS w.params)
noncomputable abbrev outOf (w : World) := (run1 w).map fun x => (x.1, x.2.2.n, (finL w.params).map (fun y => x.2.2.tree.get y.1), x.2.2.log.map fun y => (y.1, y.2.1, y.2.2.1, y.2.2.2.2, (lJ w.params 0).map fun z => y.2.2.2.1.get z.1))
noncomputable abbrev outIs (w : World) : Option (Except Value PySem.Fin × Nat × List (Option Obj) × List (Ctx × Pos × Code × (Nat × Nat) × List (Option Obj))) :=
  some (.ok (.done (.ret .none)), 3600, (finL w.params).map (fun y => some y.2), [(gS, pA, cS, (306, 612), (lJ w.params 0).map fun z => some z.2)])
theorem run_true : (fun w => outOf (wr w true)) = fun w => outIs (wr w true) := by kernel_rfl
theorem run_false : (fun w => outOf (wr w false)) = fun w => outIs (wr w false) := by kernel_rfl
end
end Tk

namespace Tk
open PySem PySem.W
theorem turn_0_true : (fun w => turns (wr w true) 0 1 pA) = fun w => after (wr w true) 1 := by kernel_rfl
theorem turn_1_true : (fun w => turns (wr w true) 1 7 pB) = fun w => after (wr w true) 8 := by kernel_rfl
theorem turn_8_true : (fun w => turns (wr w true) 8 8 pB) = fun w => after (wr w true) 16 := by kernel_rfl
theorem turn_16_true : (fun w => turns (wr w true) 16 8 pB) = fun w => after (wr w true) 24 := by kernel_rfl
theorem turn_24_true : (fun w => turns (wr w true) 24 8 pB) = fun w => after (wr w true) 32 := by kernel_rfl
theorem turn_32_true : (fun w => turns (wr w true) 32 8 pB) = fun w => after (wr w true) 40 := by kernel_rfl
theorem turn_40_true : (fun w => turns (wr w true) 40 8 pB) = fun w => after (wr w true) 48 := by kernel_rfl
theorem turn_48_true : (fun w => turns (wr w true) 48 8 pB) = fun w => after (wr w true) 56 := by kernel_rfl
theorem turn_56_true : (fun w => turns (wr w true) 56 8 pB) = fun w => after (wr w true) 64 := by kernel_rfl
theorem turn_64_true : (fun w => turns (wr w true) 64 8 pB) = fun w => after (wr w true) 72 := by kernel_rfl
theorem turn_72_true : (fun w => turns (wr w true) 72 8 pB) = fun w => after (wr w true) 80 := by kernel_rfl
theorem turn_80_true : (fun w => turns (wr w true) 80 8 pB) = fun w => after (wr w true) 88 := by kernel_rfl
theorem turn_88_true : (fun w => turns (wr w true) 88 8 pB) = fun w => after (wr w true) 96 := by kernel_rfl
theorem turn_96_true : (fun w => turns (wr w true) 96 8 pB) = fun w => after (wr w true) 104 := by kernel_rfl
theorem turn_104_true : (fun w => turns (wr w true) 104 8 pB) = fun w => after (wr w true) 112 := by kernel_rfl
theorem turn_112_true : (fun w => turns (wr w true) 112 8 pB) = fun w => after (wr w true) 120 := by kernel_rfl
theorem turn_120_true : (fun w => turns (wr w true) 120 8 pB) = fun w => after (wr w true) 128 := by kernel_rfl
theorem turn_0_false : (fun w => turns (wr w false) 0 1 pA) = fun w => after (wr w false) 1 := by kernel_rfl
theorem turn_1_false : (fun w => turns (wr w false) 1 7 pB) = fun w => after (wr w false) 8 := by kernel_rfl
theorem turn_8_false : (fun w => turns (wr w false) 8 8 pB) = fun w => after (wr w false) 16 := by kernel_rfl
theorem turn_16_false : (fun w => turns (wr w false) 16 8 pB) = fun w => after (wr w false) 24 := by kernel_rfl
theorem turn_24_false : (fun w => turns (wr w false) 24 8 pB) = fun w => after (wr w false) 32 := by kernel_rfl
theorem turn_32_false : (fun w => turns (wr w false) 32 8 pB) = fun w => after (wr w false) 40 := by kernel_rfl
theorem turn_40_false : (fun w => turns (wr w false) 40 8 pB) = fun w => after (wr w false) 48 := by kernel_rfl
theorem turn_48_false : (fun w => turns (wr w false) 48 8 pB) = fun w => after (wr w false) 56 := by kernel_rfl
theorem turn_56_false : (fun w => turns (wr w false) 56 8 pB) = fun w => after (wr w false) 64 := by kernel_rfl
theorem turn_64_false : (fun w => turns (wr w false) 64 8 pB) = fun w => after (wr w false) 72 := by kernel_rfl
theorem turn_72_false : (fun w => turns (wr w false) 72 8 pB) = fun w => after (wr w false) 80 := by kernel_rfl
theorem turn_80_false : (fun w => turns (wr w false) 80 8 pB) = fun w => after (wr w false) 88 := by kernel_rfl
theorem turn_88_false : (fun w => turns (wr w false) 88 8 pB) = fun w => after (wr w false) 96 := by kernel_rfl
theorem turn_96_false : (fun w => turns (wr w false) 96 8 pB) = fun w => after (wr w false) 104 := by kernel_rfl
theorem turn_104_false : (fun w => turns (wr w false) 104 8 pB) = fun w => after (wr w false) 112 := by kernel_rfl
theorem turn_112_false : (fun w => turns (wr w false) 112 8 pB) = fun w => after (wr w false) 120 := by kernel_rfl
theorem turn_120_false : (fun w => turns (wr w false) 120 8 pB) = fun w => after (wr w false) 128 := by kernel_rfl
end Tk

namespace Tk
open PySem PySem.W Tk2

theorem mkT_get : ∀ (l : List (Addr × Obj)), (∀ x ∈ l, x.1 + 1 < 2 ^ 16) → ∀ {a : Addr} {o : Obj}, (mkT l).get a = some o → (a, o) ∈ l
  | [], _, a, o, h => by cases h
  | x :: r, hb, a, o, h => by
    have hx := hb x (List.mem_cons_self)
    have h : ((mkT r).put 16 x.1 (some x.2)).get a = some o := h
    rw [OT.get_put _ 16 _ _ _ hx] at h
    by_cases e : a = x.1
    · rw [if_pos e] at h
      cases h
      subst e
      exact List.mem_cons_self
    · rw [if_neg e] at h
      exact List.mem_cons_of_mem _ (mkT_get r (fun y hy => hb y (List.mem_cons_of_mem _ hy)) h)
theorem map_get {l : List (Addr × Obj)} {t : OT} (e : (l.map fun y => t.get y.1) = l.map fun y => some y.2) {a : Addr} {o : Obj} (h : (a, o) ∈ l) : t.get a = some o := by
  induction l with
  | nil => cases h
  | cons x r ih =>
    simp only [List.map_cons, List.cons.injEq] at e
    rcases List.mem_cons.mp h with rfl | h
    · exact e.1
    · exact ih e.2 h
theorem rep_of {s : PS} {S : Shared} (R : Rep s S) {l : List (Addr × Obj)} {N T : Nat} (hn : s.n = N) (ht : s.toks = T) (hb : ∀ x ∈ l, x.1 + 1 < 2 ^ 16)
    (e : (l.map fun y => s.tree.get y.1) = l.map fun y => some y.2) : Rep ⟨mkT l, N, T, []⟩ S :=
  ⟨R.size.trans hn, R.toks.trans ht, R.gens, fun a o h => R.know a o (map_get e (mkT_get l hb h))⟩
theorem key_lJ {P : Params} {k : Nat} {x : Addr × Obj} (h : x ∈ lJ P k) : x.1 ∈ [0, 2, 3, 286, 287, 301, 303, 304, 305] := List.mem_map_of_mem (f := (·.1)) h
theorem bound_lJ (P : Params) (k : Nat) : ∀ x ∈ lJ P k, x.1 + 1 < 2 ^ 16 := fun x h => (by decide : ∀ a ∈ [0, 2, 3, 286, 287, 301, 303, 304, 305], a + 1 < 2 ^ 16) x.1 (key_lJ h)

noncomputable def TurnOk (w : World) (Γ : Ctx) (p : Pos) (s : PS) (Γ' : Ctx) (p' : Pos) (c' : Code) (s' : PS) : Prop :=
  s.log.length = 0 ∧ Narrow s s' ∧ Γ'.code = c' ∧ ∀ S, Rep s S → ∃ S', Rep s' S' ∧ Still S S' ∧ Stay s S S' ∧ ∀ R, wpCode (model pw w) Γ' R p' S' → wpCode (model pw w) Γ R p S
theorem turn_one {w : World} {fuel : Nat} {Γ : Ctx} {p p₁ : Pos} {c c₁ : Code} {s s₁ : PS} {Γ' : Ctx} {p' : Pos} {c' : Code} {s' : PS} (e : (both denF pw w (fun _ => false) id 0 0 fuel).gs Γ p (denF c) s = some (.ok (.again c₁), p₁, s₁))
    (q : c₁.quiet = true) (hc : Γ.code = c) (h : TurnOk w (Γ.goto c₁) p₁ s₁ Γ' p' c' s') : TurnOk w Γ p s Γ' p' c' s' := by
  have B : Tk2.GsOk (model pw w) id 0 0 (both denF pw w (fun _ => false) id 0 0 fuel).gs := (Tk2.both_ok (M := model pw w) (hole := fun _ => false) (orc := id) (orN := 0) (orT := 0) (den := denF) (prog := pw) (w := w) rfl rfl denF_eq fuel).1
  refine Classical.byContradiction fun hG => ?_
  obtain ⟨z, n₂, hc₂, k₂⟩ := h
  obtain ⟨⟨l, hl₁⟩, n₁, k₁⟩ := B Γ p (denF c) s _ _ _ e
  have z1 := List.length_eq_zero_iff.mp z
  have hs : s.log = [] := (List.append_eq_nil_iff.mp (hl₁.symm.trans z1)).2
  have e1 : s₁.log = s.log := z1.trans hs.symm
  refine hG ⟨by rw [hs]; rfl, (n₁ e1).trans n₂, hc₂, fun S R => ?_⟩
  refine Classical.byContradiction fun hG => ?_
  obtain ⟨S₁, R₁, st₁, sy₁, w₁⟩ := k₁ (fun x hx => absurd (z1 ▸ hx) List.not_mem_nil) S R
  obtain ⟨S₂, R₂, st₂, sy₂, w₂⟩ := k₂ S₁ R₁
  refine hG ⟨S₂, R₂, st₁.trans st₂, (sy₁ e1).trans (n₁ e1) sy₂, fun R' hR => ?_⟩
  rw [wpCode_iff_wp, hc, show (model pw w).den = denF from denF_eq]
  exact w₁ _ _ ⟨q, w₂ R' hR⟩
theorem turnN_ok {w : World} {fuel : Nat} (k : Nat) : ∀ (Γ : Ctx) (p : Pos) (c : Code) (s : PS) (Γ' : Ctx) (p' : Pos) (c' : Code) (s' : PS), turnN denF pw w fuel k Γ p c s = some (Γ', p', c', s') → s'.log.length = 0 → Γ.code = c → TurnOk w Γ p s Γ' p' c' s' := by
  induction k with
  | zero =>
    intro Γ p c s Γ' p' c' s' h hl hc
    cases h
    exact ⟨hl, .refl _, hc, fun S R => ⟨S, R, .refl S, .refl _ S, fun R h => h⟩⟩
  | succ k ih =>
    intro Γ p c s Γ' p' c' s' h hl hc
    have h : (match (both denF pw w (fun _ => false) id 0 0 fuel).gs Γ p (denF c) s with | some (.ok (.again c'), p', s') => (match c'.quiet with | true => turnN denF pw w fuel k (Γ.goto c') p' c' s' | false => none) | _ => none) = some (Γ', p', c', s') := h
    cases e : (both denF pw w (fun _ => false) id 0 0 fuel).gs Γ p (denF c) s with
    | none => rw [e] at h; exact nomatch h
    | some x =>
      obtain ⟨r, p₁, s₁⟩ := x
      rw [e] at h
      cases r with
      | error v => exact nomatch h
      | ok fin =>
        cases fin with
        | done f => exact nomatch h
        | again c₁ =>
          cases q : c₁.quiet with
          | false => dsimp only at h; rw [q] at h; exact nomatch h
          | true =>
            dsimp only at h
            rw [q] at h
            exact turn_one e q hc (ih _ _ _ _ _ _ _ _ h hl rfl)

/-- the loop's states: the tree's own objects known, the others of the old ones as they were -/
structure Far (S S' : Shared) : Prop where
  still : Still S S'
  stay : ∀ a, a < 306 → a ∉ [0, 2, 3, 286, 287, 301, 303, 304, 305] → S'.heap.objs[a]? = S.heap.objs[a]?
theorem Far.trans {a b c : Shared} (h : Far a b) (k : Far b c) : Far a c := ⟨h.still.trans k.still, fun x hx hn => (k.stay x hx hn).trans (h.stay x hx hn)⟩
theorem lJ_none (P : Params) (k a : Nat) (h : a ∉ [0, 2, 3, 286, 287, 301, 303, 304, 305]) : (mkT (lJ P k)).get a = none := by
  cases e : (mkT (lJ P k)).get a with
  | none => rfl
  | some o => exact absurd (key_lJ (mkT_get _ (bound_lJ P k) e)) h

noncomputable def Loop (w : World) (i k : Nat) (p : Pos) : Prop := ∀ S : Shared, Rep (sJ w.params i) S →
    ∃ S', Rep (sJ w.params k) S' ∧ Far S S' ∧ ∀ Q, wpCode (model pw w) gC Q pB S' → wpCode (model pw w) gC Q p S
theorem Loop.trans {w : World} {i j k : Nat} {p : Pos} (h : Loop w i j p) (g : Loop w j k pB) : Loop w i k p := fun S R => by
  refine Classical.byContradiction fun hG => ?_
  obtain ⟨S1, R1, f1, w1⟩ := h S R
  obtain ⟨S2, R2, f2, w2⟩ := g S1 R1
  exact hG ⟨S2, R2, f1.trans f2, fun Q h => w1 Q (w2 Q h)⟩
theorem piece {w : World} {k j : Nat} {p : Pos} (e : turns w k j p = after w (k + j)) : Loop w k (k + j) p := fun S R => by
  refine Classical.byContradiction fun hG => ?_
  obtain ⟨⟨Γ', p', c', s'⟩, h, hx⟩ := Option.map_eq_some_iff.mp e
  injection hx with h1 hx
  injection hx with h2 hx
  injection hx with h3 hx
  injection hx with hn hx
  injection hx with ht hx
  injection hx with hl hm
  dsimp only at h1 h2 h3 hn ht hl hm
  subst h1 h2 h3
  obtain ⟨S', R', st, sy, wp⟩ := (turnN_ok j gC p cC (sJ w.params k) _ _ _ _ h hl rfl).2.2.2 S R
  exact hG ⟨S', rep_of R' hn ht (bound_lJ _ _) hm, ⟨st, fun a ha hna => sy a (Nat.lt_of_lt_of_le ha (Nat.le_add_right _ _)) (lJ_none _ _ _ hna)⟩, wp⟩
theorem loop_true (w : World) : Loop (wr w true) 0 128 pA :=
  (((((((((((((((((piece (congrFun turn_0_true w)).trans (piece (congrFun turn_1_true w))).trans (piece (congrFun turn_8_true w))).trans (piece (congrFun turn_16_true w))).trans (piece (congrFun turn_24_true w))).trans (piece (congrFun turn_32_true w))).trans (piece (congrFun turn_40_true w))).trans (piece (congrFun turn_48_true w))).trans (piece (congrFun turn_56_true w))).trans (piece (congrFun turn_64_true w))).trans (piece (congrFun turn_72_true w))).trans (piece (congrFun turn_80_true w))).trans (piece (congrFun turn_88_true w))).trans (piece (congrFun turn_96_true w))).trans (piece (congrFun turn_104_true w))).trans (piece (congrFun turn_112_true w))).trans (piece (congrFun turn_120_true w)))
theorem loop_false (w : World) : Loop (wr w false) 0 128 pA :=
  (((((((((((((((((piece (congrFun turn_0_false w)).trans (piece (congrFun turn_1_false w))).trans (piece (congrFun turn_8_false w))).trans (piece (congrFun turn_16_false w))).trans (piece (congrFun turn_24_false w))).trans (piece (congrFun turn_32_false w))).trans (piece (congrFun turn_40_false w))).trans (piece (congrFun turn_48_false w))).trans (piece (congrFun turn_56_false w))).trans (piece (congrFun turn_64_false w))).trans (piece (congrFun turn_72_false w))).trans (piece (congrFun turn_80_false w))).trans (piece (congrFun turn_88_false w))).trans (piece (congrFun turn_96_false w))).trans (piece (congrFun turn_104_false w))).trans (piece (congrFun turn_112_false w))).trans (piece (congrFun turn_120_false w)))
end Tk

namespace Tk
open PySem PySem.W Tk2
noncomputable section
noncomputable abbrev wc (w : World) (b c : Bool) : World := (wr w b).withFollow "comprehension-iter-twice" c
noncomputable abbrev startOut (w : World) := ((both denF pw w (fun _ => false) id 0 0 200).gs gS pA (denF cS) (sJ w.params 0)).map fun x => (x.1, x.2.1, x.2.2.n, x.2.2.toks, x.2.2.log.length, (lJ w.params 0).map fun y => x.2.2.tree.get y.1)
noncomputable abbrev startIs (w : World) : Option (Except Value PySem.Fin × Pos × Nat × Nat × Nat × List (Option Obj)) := some (.ok (.again cC), pA, 306, 612, 0, (lJ w.params 0).map fun y => some y.2)
theorem start_tt : (fun w => startOut (wc w true true)) = fun w => startIs (wc w true true) := by kernel_rfl
theorem start_tf : (fun w => startOut (wc w true false)) = fun w => startIs (wc w true false) := by kernel_rfl
theorem start_ft : (fun w => startOut (wc w false true)) = fun w => startIs (wc w false true) := by kernel_rfl
theorem start_ff : (fun w => startOut (wc w false false)) = fun w => startIs (wc w false false) := by kernel_rfl
noncomputable abbrev endOut (w : World) := ((both denF pw w (fun _ => false) id 0 0 200).gs gC pB (denF cC) (sJ w.params 128)).map fun x => (x.1, x.2.2.n, x.2.2.toks, x.2.2.log.length, (lJ w.params 128).map fun y => x.2.2.tree.get y.1)
noncomputable abbrev endIs (w : World) : Option (Except Value PySem.Fin × Nat × Nat × Nat × List (Option Obj)) := some (.ok (.done .next), 3508, 9828, 0, (lJ w.params 128).map fun y => some y.2)
theorem end_t : (fun w => endOut (wr w true)) = fun w => endIs (wr w true) := by kernel_rfl
theorem end_f : (fun w => endOut (wr w false)) = fun w => endIs (wr w false) := by kernel_rfl
end

theorem start_any (w : World) (h : w = wr w (w.params.followText "special-get-raises")) : startOut w = startIs w := by
  have e : w = wc w (w.params.followText "special-get-raises") (w.params.followText "comprehension-iter-twice") := by
    conv => lhs; rw [← World.withFollow_self w "comprehension-iter-twice"]
    show w.withFollow _ _ = (wr w _).withFollow _ _
    rw [← h]
  rw [e]
  cases w.params.followText "special-get-raises" <;> cases w.params.followText "comprehension-iter-twice"
  · exact congrFun start_ff w
  · exact congrFun start_ft w
  · exact congrFun start_tf w
  · exact congrFun start_tt w
theorem end_any (w : World) (h : w = wr w (w.params.followText "special-get-raises")) : endOut w = endIs w := by
  rw [h]
  cases w.params.followText "special-get-raises"
  · exact congrFun end_f w
  · exact congrFun end_t w
theorem loop_any (w : World) (h : w = wr w (w.params.followText "special-get-raises")) : Loop w 0 128 pA := by
  rw [h]
  cases w.params.followText "special-get-raises"
  · exact loop_false w
  · exact loop_true w
theorem run_any (w : World) (h : w = wr w (w.params.followText "special-get-raises")) : outOf w = outIs w := by
  rw [h]
  cases w.params.followText "special-get-raises"
  · exact congrFun run_false w
  · exact congrFun run_true w
theorem wr_self (w : World) : w = wr w (w.params.followText "special-get-raises") := (World.withFollow_self w _).symm

theorem out_start {o : Option (Except Value PySem.Fin × Pos × PS)} {l : List (Addr × Obj)} {r : Except Value PySem.Fin} {p : Pos} {n t : Nat} {m : List (Option Obj)}
    (e : (o.map fun x => (x.1, x.2.1, x.2.2.n, x.2.2.toks, x.2.2.log.length, l.map fun y => x.2.2.tree.get y.1)) = some (r, p, n, t, 0, m)) : ∃ s, o = some (r, p, s) ∧ s.n = n ∧ s.toks = t ∧ s.log = [] ∧ (l.map fun y => s.tree.get y.1) = m := by
  cases o with
  | none => exact nomatch e
  | some x =>
    obtain ⟨r, p, s⟩ := x
    injection e with e
    injection e with e1 e
    injection e with e2 e
    injection e with e3 e
    injection e with e4 e
    injection e with e5 e6
    exact ⟨s, by rw [← e1, ← e2], e3, e4, List.length_eq_zero_iff.mp e5, e6⟩
theorem out_end {o : Option (Except Value PySem.Fin × Pos × PS)} {l : List (Addr × Obj)} {r : Except Value PySem.Fin} {n t : Nat} {m : List (Option Obj)}
    (e : (o.map fun x => (x.1, x.2.2.n, x.2.2.toks, x.2.2.log.length, l.map fun y => x.2.2.tree.get y.1)) = some (r, n, t, 0, m)) : ∃ p s, o = some (r, p, s) ∧ s.n = n ∧ s.toks = t ∧ s.log = [] ∧ (l.map fun y => s.tree.get y.1) = m := by
  cases o with
  | none => exact nomatch e
  | some x =>
    obtain ⟨r, p, s⟩ := x
    injection e with e
    injection e with e1 e
    injection e with e3 e
    injection e with e4 e
    injection e with e5 e6
    exact ⟨p, s, by rw [← e1], e3, e4, List.length_eq_zero_iff.mp e5, e6⟩
theorem gs_200 {w : World} {Γ : Ctx} {p p' : Pos} {c : Code} {s s' : PS} {r : PySem.Fin} (h : (both denF pw w (fun _ => false) id 0 0 200).gs Γ p (denF c) s = some (.ok r, p', s')) (hs : s.log = []) (hl : s'.log = []) (hc : Γ.code = c) {S : Shared} (R : Rep s S) :
    ∃ S', Rep s' S' ∧ Still S S' ∧ Stay s S S' ∧ ∀ Q, Sem.finPost (model pw w) Γ Q r p' S' → wpCode (model pw w) Γ Q p S := by
  have B : Tk2.GsOk (model pw w) id 0 0 (both denF pw w (fun _ => false) id 0 0 200).gs := (Tk2.both_ok (M := model pw w) (hole := fun _ => false) (orc := id) (orN := 0) (orT := 0) (den := denF) (prog := pw) (w := w) rfl rfl denF_eq 200).1
  obtain ⟨S₁, R₁, st₁, sy₁, w₁⟩ := (B Γ p (denF c) s _ _ _ h).2.2 (fun x hx => absurd (hl ▸ hx) List.not_mem_nil) S R
  refine ⟨S₁, R₁, st₁, sy₁ (hl.trans hs.symm), fun Q k => ?_⟩
  rw [wpCode_iff_wp, hc, show (model pw w).den = denF from denF_eq]
  exact w₁ _ _ k
/-- the whole comprehension -/
theorem comp_any (w : World) {S : Shared} (R : Rep (sJ w.params 0) S) :
    ∃ S', Rep ⟨mkT (lJ w.params 128), 3508, 9828, []⟩ S' ∧ Far S S' ∧ wpCode (model pw w) gS (fun r s' => r = .ok .next ∧ s' = S') pA S := by
  refine Classical.byContradiction fun hG => ?_
  obtain ⟨s, h, hn, ht, hl, hm⟩ := out_start (start_any w (wr_self w))
  obtain ⟨S₁, R₁, st₁, sy₁, w₁⟩ := gs_200 h rfl hl rfl R
  obtain ⟨S₂, R₂, f₂, w₂⟩ := loop_any w (wr_self w) S₁ (rep_of R₁ hn ht (bound_lJ _ _) hm)
  obtain ⟨p, s', h', hn', ht', hl', hm'⟩ := out_end (end_any w (wr_self w))
  obtain ⟨S₃, R₃, st₃, sy₃, w₃⟩ := gs_200 h' rfl hl' rfl R₂
  refine hG ⟨S₃, rep_of R₃ hn' ht' (bound_lJ _ _) hm', ⟨st₁.trans (f₂.still.trans st₃), fun a ha hna => ?_⟩, w₁ _ ⟨rfl, w₂ _ (w₃ _ ⟨rfl, rfl⟩)⟩⟩
  exact ((sy₃ a (Nat.lt_of_lt_of_le ha (by decide : 306 ≤ 306 + 25 * 128)) (lJ_none _ _ _ hna)).trans (f₂.stay a ha hna)).trans (sy₁ a ha (lJ_none _ _ _ hna))

theorem lJ_old (P : Params) {a : Addr} {o : Obj} (h : (a, o) ∈ lJ P 0) (hn : a ≠ 303 ∧ a ≠ 304 ∧ a ≠ 305) : (a, o) ∈ lJ P 128 := by
  rcases List.mem_append.mp (show (a, o) ∈ (lJ P 0).take 6 ++ (lJ P 0).drop 6 from h) with h | h
  · exact List.mem_of_mem_take (show (a, o) ∈ (lJ P 128).take 6 from h)
  · have h : a ∈ [303, 304, 305] := List.mem_map_of_mem (f := (·.1)) h
    exact ((List.mem_cons.mp h).elim hn.1 fun t => (List.mem_cons.mp t).elim hn.2.1 fun t => hn.2.2 (List.mem_singleton.mp t)).elim
theorem lJ_in (P : Params) (k : Nat) {a : Addr} (h : a ∈ [0, 2, 3, 286, 287, 301, 303, 304, 305]) : ∃ o, (a, o) ∈ lJ P k := by
  obtain ⟨⟨_, o⟩, h1, rfl⟩ := List.mem_map.mp (show a ∈ (lJ P k).map (·.1) from h)
  exact ⟨o, h1⟩
theorem know_mk {l : List (Addr × Obj)} {N T : Nat} {S : Shared} (R : Rep ⟨mkT l, N, T, []⟩ S) {a : Addr} {o : Obj} (h : (mkT l).get a = some o) : S.heap.objs[a]? = some o := R.know a o h

theorem mkT_mem : ∀ (l : List (Addr × Obj)), (∀ x ∈ l, x.1 + 1 < 2 ^ 16) → (l.map (·.1)).Nodup → ∀ {a : Addr} {o : Obj}, (a, o) ∈ l → (mkT l).get a = some o
  | [], _, _, _, _, h => nomatch h
  | x :: r, hb, hd, a, o, h => by
    have hx := hb x (List.mem_cons_self)
    show ((mkT r).put 16 x.1 (some x.2)).get a = some o
    rw [OT.get_put _ 16 _ _ _ hx]
    rw [List.map_cons, List.nodup_cons] at hd
    rcases List.mem_cons.mp h with rfl | h
    · rw [if_pos rfl]
    · rw [if_neg (fun e : a = x.1 => hd.1 (by rw [← e]; exact List.mem_map_of_mem (f := (·.1)) h))]
      exact mkT_mem r (fun y hy => hb y (List.mem_cons_of_mem _ hy)) hd.2 h
theorem nodup_lJ (P : Params) (k : Nat) : ((lJ P k).map (·.1)).Nodup := by
  show [0, 2, 3, 286, 287, 301, 303, 304, 305].Nodup
  decide

theorem get3 {t : OT} {x y z k : Addr} {a b c : Option Obj} (hx : x + 1 < 2 ^ 16) (hy : y + 1 < 2 ^ 16) (hz : z + 1 < 2 ^ 16) : (((t.put 16 x a).put 16 y b).put 16 z c).get k = if k = z then c else if k = y then b else if k = x then a else t.get k := by
  rw [OT.get_put _ 16 _ _ _ hz, OT.get_put _ 16 _ _ _ hy, OT.get_put _ 16 _ _ _ hx]
theorem know_lJ {P : Params} {k N T : Nat} {S : Shared} (R : Rep ⟨mkT (lJ P k), N, T, []⟩ S) {a : Addr} {o : Obj} (h : (a, o) ∈ lJ P k) : S.heap.objs[a]? = some o := know_mk R (mkT_mem _ (bound_lJ _ _) (nodup_lJ _ _) h)
theorem hole_know {P : Params} {t : OT} (hm : ((lJ P 0).map fun z => t.get z.1) = (lJ P 0).map fun z => some z.2) {N T : Nat} {S S' : Shared} (R : ∀ a o, t.get a = some o → S.heap.objs[a]? = some o) (hs : S.heap.objs.size = 306) (R' : Rep ⟨mkT (lJ P 128), N, T, []⟩ S') (f : Far S S') {a : Addr} {o : Obj}
    (h : (if a = 305 then some (o305 P 128) else if a = 304 then some (o304 128) else if a = 303 then some (o303 128) else t.get a) = some o) : S'.heap.objs[a]? = some o := by
  by_cases e5 : a = 305
  · rw [if_pos e5] at h
    rw [← h, e5]
    exact know_lJ R' (List.mem_of_getElem? (i := 8) rfl)
  rw [if_neg e5] at h
  by_cases e4 : a = 304
  · rw [if_pos e4] at h
    rw [← h, e4]
    exact know_lJ R' (List.mem_of_getElem? (i := 7) rfl)
  rw [if_neg e4] at h
  by_cases e3 : a = 303
  · rw [if_pos e3] at h
    rw [← h, e3]
    exact know_lJ R' (List.mem_of_getElem? (i := 6) rfl)
  rw [if_neg e3] at h
  have hS := R a o h
  by_cases hin : a ∈ [0, 2, 3, 286, 287, 301, 303, 304, 305]
  · refine Classical.byContradiction fun hG => ?_
    obtain ⟨o', ho'⟩ := lJ_in P 0 hin
    refine hG ?_
    obtain rfl := Option.some.inj (h.symm.trans (map_get hm ho'))
    exact know_lJ R' (lJ_old _ ho' ⟨e3, e4, e5⟩)
  · rw [f.stay a (hs ▸ (Array.getElem?_eq_some_iff.mp hS).1) hin]; exact hS
theorem hole_ok (w : World) {t : OT} (hm : ((lJ w.params 0).map fun z => t.get z.1) = (lJ w.params 0).map fun z => some z.2) :
    Valid (model pw w) (orcT w.params) 3508 9828 (gS, pA, cS, t, 306, 612) := by
  intro S R
  refine Classical.byContradiction fun hG => ?_
  obtain ⟨S', R', f, wp⟩ := comp_any w (rep_of R rfl rfl (bound_lJ _ _) hm)
  exact hG ⟨S', ⟨R'.size, R'.toks, R'.gens, fun a o h => hole_know hm R.know R.size R' f ((get3 (by decide) (by decide) (by decide)).symm.trans h)⟩, f.still, wp⟩

theorem bound_fin (P : Params) : ∀ x ∈ finL P, x.1 + 1 < 2 ^ 16 := by
  have : ((finL P).map (·.1)).all (fun a => decide (a + 1 < 2 ^ 16)) = true := by
    exact (rfl : ((finL P).map (·.1)).all (fun a => decide (a + 1 < 2 ^ 16)) = true)
  intro x hx
  exact of_decide_eq_true (List.all_eq_true.mp this x.1 (List.mem_map_of_mem (f := (·.1)) hx))
noncomputable def finA : List Nat := [0, 1, 4, 5, 6, 7, 8, 9, 10, 2, 3, 11, 12, 13, 14, 96, 97, 103, 104, 110, 111, 119, 125, 126, 132, 133, 153, 154, 160, 161, 167, 168, 191, 192, 209, 210, 216, 217, 223, 224, 230, 231, 237, 238, 272, 273, 275, 276, 286, 287, 3509, 3510, 3520, 3521, 3527, 3528, 3534, 3535, 3541, 3542, 3548, 3549, 3553, 3554, 3560, 3561, 3567, 3568, 3574, 3575, 3581, 3582, 3586, 3587, 3591, 3592, 3598, 3599, 304]
theorem nodup_fin (P : Params) : ((finL P).map (·.1)).Nodup := by
  have : ((finL P).map (·.1)) = finA := rfl
  rw [this]
  decide

/-- the top, run -/
theorem top_ok (w : World) {S : Shared} (R : Rep (bootS w.params) S) :
    ∃ S' p' T, Rep ⟨mkT (finL w.params), 3600, T, []⟩ S' ∧ Still S S' ∧ ∀ (Q : PySem.Fin → Pos → Shared → Prop) (E : Value → Pos → Shared → Prop), Q (.done (.ret .none)) p' S' → Sem.wp (model pw w) g0 (topStub pw).cur Q E default S := by
  obtain ⟨⟨r, p, s⟩, h, hx⟩ := Option.map_eq_some_iff.mp (run_any w (wr_self w))
  simp only [Prod.mk.injEq] at hx
  obtain ⟨rfl, hn, hm, hl⟩ := hx
  have B : Tk2.GsOk (model pw w) (orcT w.params) 3508 9828 (both denF pw w holeC (orcT w.params) 3508 9828 6000).gs := (Tk2.both_ok (M := model pw w) (hole := holeC) (orc := orcT w.params) (orN := 3508) (orT := 9828) (den := denF) (prog := pw) (w := w) rfl rfl denF_eq 6000).1
  obtain ⟨_, _, k⟩ := B g0 default _ _ _ _ _ h
  obtain ⟨S', R', st, _, wp⟩ := k (fun x hx => by
    obtain ⟨y, hy⟩ : ∃ y, s.log = [y] := by
      cases e : s.log with
      | nil => rw [e] at hl; cases hl
      | cons y r =>
        cases r with
        | nil => exact ⟨y, rfl⟩
        | cons z r => rw [e] at hl; simp at hl
    rw [hy] at hx hl
    rcases List.mem_singleton.mp hx with rfl
    obtain ⟨Γ, q, c, t, n, tk⟩ := x
    simp only [List.map_cons, List.map_nil, List.cons.injEq, and_true, Prod.mk.injEq] at hl
    obtain ⟨rfl, rfl, rfl, ⟨rfl, rfl⟩, hm⟩ := hl
    exact hole_ok w hm) S R
  exact ⟨S', p, s.toks, rep_of R' hn rfl (bound_fin _) hm, st, fun Q E q => wp Q E q⟩
end Tk

namespace Tk
open PySem PySem.W Tk2 PySem.Calls PyProof.Rows

theorem opening_pw : opening pw = plainProg pw.main.scope.names := rfl
theorem fence_pw : ∀ s, fenceModules? pw s = some s := fun _ => rfl
theorem boot_rep (w : World) (os : OsState) : Rep (bootS w.params) ⟨boot_heap w.params, #[], boot_drawn, boot_toks, os⟩ := by
  refine ⟨rfl, rfl, rfl, fun a o h => ?_⟩
  have hb : ∀ x ∈ bootL w.params, x.1 + 1 < 2 ^ 16 := by
    have : ((bootL w.params).map (·.1)).all (fun a => decide (a + 1 < 2 ^ 16)) = true := rfl
    intro x hx
    exact of_decide_eq_true (List.all_eq_true.mp this x.1 (List.mem_map_of_mem (f := (·.1)) hx))
  have := mkT_get _ hb h
  simp only [bootL, List.mem_cons, Prod.mk.injEq, List.not_mem_nil, or_false] at this
  rcases this with ⟨rfl, rfl⟩ | ⟨rfl, rfl⟩ | ⟨rfl, rfl⟩ | ⟨rfl, rfl⟩ | ⟨rfl, rfl⟩ | ⟨rfl, rfl⟩ | ⟨rfl, rfl⟩ | ⟨rfl, rfl⟩ | ⟨rfl, rfl⟩ | ⟨rfl, rfl⟩ | ⟨rfl, rfl⟩ <;> rfl

theorem fin_get {w : World} {T : Nat} {S : Shared} (R : Rep ⟨mkT (finL w.params), 3600, T, []⟩ S) {a : Addr} {o : Obj} (h : (a, o) ∈ finL w.params) (hl : alive o = some o := by rfl) : S.heap.get? a = some o :=
  get_alive (R.know a o (mkT_mem _ (bound_fin _) (nodup_fin _) h)) hl

theorem Shared.ext_gens {s s' : Shared} (h : s.forget = s'.forget) (hg : s'.gens = #[]) : s = s' := by
  obtain ⟨a, b, c, d, e⟩ := s
  obtain ⟨a', b', c', d', e'⟩ := s'
  simp only [Shared.forget, Shared.mk.injEq] at h hg ⊢
  obtain ⟨h1, h2, h3, h4, h5⟩ := h
  subst hg
  refine ⟨h1, ?_, h3, h4, h5⟩
  have := congrArg Array.size h2
  simp only [Array.size_map, List.size_toArray, List.length_nil] at this
  exact Array.eq_empty_of_size_eq_zero this

/-- the step before a run is done -/
noncomputable def haltDone : Step → Bool
  | .halt (.done _) _ => true
  | _ => false
theorem fin_un {e : Value} {s : Shared} (h : haltDone (finish (.uncaught e) s) = true) : False := by
  delta finish at h
  cases g : leftWithCleanup s.gens with
  | true => rw [g] at h; exact Bool.false_ne_true h
  | false => rw [g] at h; exact Bool.false_ne_true h
theorem step_done {den : Code → Sem PySem.Fin} {p : Program} {w : World} (heap : Heap) (gens : Array GenState) (drawn : Drawn) (toks : Nat) (os : OsState) (code : Code) (pos : Pos) (stack : List Frame) (cur : Sem PySem.Fin)
    (e : haltDone (step den p w ⟨heap, gens, drawn, toks, os⟩ ⟨cur, code, pos, stack⟩) = true) : through ⟨cur, code, pos, stack⟩ = true := by
  refine Classical.byContradiction fun hG => ?_
  cases cur with
  | pure x =>
    cases x with
    | done f' =>
      cases stack with
      | nil => exact hG rfl
      | cons fr r => cases fr <;> exact Bool.false_ne_true e
    | again c => exact Bool.false_ne_true e
  | raise v =>
    clear hG
    cases stack with
    | nil => exact fin_un e
    | cons fr r => cases fr <;> exact Bool.false_ne_true e
  | finish v =>
    have e : haltDone (if leftWithCleanup gens = true then Step.halt (.unsupported _) ⟨heap, gens, drawn, toks, os⟩ else .halt (.ended v) ⟨heap, gens, drawn, toks, os⟩) = true := e
    cases g : leftWithCleanup gens <;> (rw [g] at e; exact Bool.false_ne_true e)
  | load a part k =>
    have e : haltDone (match heap.get? a with | some o => Step.go ⟨heap, gens, drawn, toks, os⟩ ⟨k o, code, pos, stack⟩ | none => .halt (.stuck _) ⟨heap, gens, drawn, toks, os⟩) = true := e
    cases g : heap.get? a <;> (rw [g] at e; exact Bool.false_ne_true e)
  | update a part g k =>
    have e : haltDone (if (heap.get? a).isSome = true then Step.go ⟨heap.update a g, gens, drawn, toks, os⟩ ⟨k (), code, pos, stack⟩ else .halt (.stuck _) ⟨heap, gens, drawn, toks, os⟩) = true := e
    cases g : (heap.get? a).isSome <;> (rw [g] at e; exact Bool.false_ne_true e)
  | choose src n k => cases n <;> exact Bool.false_ne_true e
  | genState g k => delta step at e; dsimp only at e; generalize gens[g]? = z at e; cases z <;> exact Bool.false_ne_true e
  | resume g r l k =>
    delta step at e; dsimp only at e
    generalize gens[g]? = z at e
    clear hG
    cases z with
    | none => exact Bool.false_ne_true e
    | some st =>
      cases st with
      | fresh c =>
        cases r with
        | send v => cases v <;> exact Bool.false_ne_true e
        | throw v => exact Bool.false_ne_true e
      | _ => exact Bool.false_ne_true e
  | «yield» v g0 l kk => delta step at e; dsimp only at e; generalize splitAtGen stack = z at e; cases z <;> exact Bool.false_ne_true e
  | _ => exact Bool.false_ne_true e
theorem before_done {den : Code → Sem PySem.Fin} {p : Program} {w : World} {f : Flow} : ∀ (n : Nat) (s : Shared) (t : Thread) (s' : Shared), runN den p w n s t = .halted (.done f) s' →
    ∃ k t', runN den p w k s t = .running s' t' ∧ through t' = true
  | 0, s, t, s', h => by cases h
  | n + 1, s, t, s', h => by
    simp only [runN] at h
    cases e : step den p w s t with
    | go s₁ t₁ =>
      refine Classical.byContradiction fun hG0 => ?_
      rw [e] at h
      obtain ⟨k, t', h1, h2⟩ := before_done n s₁ t₁ s' h
      refine hG0 ?_
      exact ⟨k + 1, t', by simp only [runN, e]; exact h1, h2⟩
    | halt o s₁ =>
      rw [e] at h
      cases h
      have hs := step_halt_same den p w s _ t _ e
      subst hs
      exact ⟨0, t, rfl, step_done _ _ _ _ _ _ _ _ _ (by rw [e]; rfl)⟩
end Tk

namespace Tk
open PySem PySem.W Tk2 PySem.Calls PyProof.Rows

/-- what the law's call stands on -/
noncomputable abbrev Fin3 (w : World) (S : Shared) : Prop := ∃ T, Rep ⟨mkT (finL w.params), 3600, T, []⟩ S

theorem in_fin {P : Params} {a : Addr} {o : Obj} (i : Nat) (h : (finL P)[i]? = some (a, o)) : (a, o) ∈ finL P := List.mem_of_getElem? h

theorem Fin3.get {w : World} {S : Shared} (F : Fin3 w S) {a : Addr} {o : Obj} (i : Nat) (h : (finL w.params)[i]? = some (a, o)) (hl : alive o = some o := by rfl) : S.heap.get? a = some o :=
  let ⟨_, R⟩ := F
  fin_get R (in_fin i h) hl

noncomputable def entriesOf (o : Obj) : Array DictEntry := match o.data with
  | .dict es _ => es
  | _ => #[]
noncomputable def keyIsStr (e : DictEntry) : Bool := match e.key with
  | .str _ _ => true
  | _ => false
noncomputable def findIn3 (o : Obj) (x : PySem.Str) : Option Value := ((entriesOf o).find? (·.key.isStr x)).map (·.val)
theorem global_keys (P : Params) : ∀ e ∈ entriesOf (F3 P), ∃ x t, e.key = .str x t := by
  have h : (fun P : Params => (entriesOf (F3 P)).toList.all keyIsStr) = fun _ => true := by kernel_rfl
  intro e he
  have := List.all_eq_true.mp (congrFun h P) e (Array.mem_toList_iff.mpr he)
  unfold keyIsStr at this
  cases hk : e.key with
  | str x t => exact ⟨x, t, rfl⟩
  | _ => rw [hk] at this; cases this

noncomputable def nameBound (e : DictEntry) : Bool := match e.key with
  | .str x _ => startupNames.contains x || pw.boundNames.contains x
  | _ => false
theorem bound_names_ok (P : Params) : (entriesOf (F3 P)).toList.all nameBound = true := by
  have : (fun P : Params => (entriesOf (F3 P)).toList.all nameBound) = fun _ => true := by kernel_rfl
  exact congrFun this P
theorem boot_blt : (fun P : Params => ((boot_heap P).isNs builtinsNs, (boot_heap P).bltView)) = fun _ => (true, bltViewBooted) := by kernel_rfl

theorem isNs_congr {h h' : Heap} {a : Addr} (e : h.get? a = h'.get? a) : h.isNs a = h'.isNs a := by unfold Heap.isNs; rw [e]
theorem nsMap_congr {h h' : Heap} {a : Addr} (e : h.get? a = h'.get? a) : h.nsMap a = h'.nsMap a := by funext x; unfold Heap.nsMap; rw [e]

theorem top_builtins {w : World} {S : Shared} (F : Fin3 w S) : S.heap.isNs builtinsNs = true ∧ ∀ x : Str, x ≠ "__name__" → S.heap.nsMap builtinsNs x = bootBuiltins x := by
  have g : S.heap.get? builtinsNs = (boot_heap w.params).get? builtinsNs := (F.get 0 rfl).trans rfl
  have b := congrFun boot_blt w.params
  have b1 : (boot_heap w.params).isNs builtinsNs = true := congrArg Prod.fst b
  have b2 : (boot_heap w.params).bltView = bltViewBooted := congrArg Prod.snd b
  refine ⟨(isNs_congr g).trans b1, fun x hx => ?_⟩
  rw [nsMap_congr g]
  exact Heap.of_bltView b1 b2 x hx

theorem laid_names (P : Params) : laidNames.all (fun x => decide (findIn3 (F3 P) x = findIn3 (boot_o_3 P) x)) = true := by
  have : (fun P : Params => laidNames.all (fun x => decide (findIn3 (F3 P) x = findIn3 (boot_o_3 P) x))) = fun _ => true := by kernel_rfl
  exact congrFun this P

/-- the top, from the start -/
theorem behind (w : World) : (∃ s, AfterRun (opening pw) w s) ∧ ∀ s, AfterRun (opening pw) w s → ∃ s₀, fenceModules? pw s = some s₀ ∧ s₀.gens = #[] ∧ ∃ s₁, TopRan pw w s₀ s₁ ∧ s₁.asleep ∧ Fin3 w s₁ := by
  have hb := boot_open (p := pw) (N := 600) opening_pw rfl fence_pw w
  obtain ⟨s₀, h1, h2⟩ := Option.map_eq_some_iff.mp hb
  unfold fencedOpening at h1
  rw [← table_eq_tree] at h1
  obtain ⟨s, h4, h5⟩ := Option.bind_eq_some_iff.mp h1
  have A := AfterImport.of_importEnds h4
  refine ⟨⟨s, A⟩, fun s' hs' => ?_⟩
  obtain rfl : s' = s := AfterImport.unique hs' A
  refine ⟨s₀, h5, ?_⟩
  have z : s₀.asleep := Shared.asleep_of_life (fence_lifeW h5) A.life
  obtain ⟨heap, gens, drawn, toks, os⟩ := s₀
  simp only [Prod.mk.injEq] at h2
  obtain ⟨rfl, rfl, rfl, rfl⟩ := h2
  refine ⟨rfl, ?_⟩
  obtain ⟨S', p', T, R, st, wp⟩ := top_ok w (boot_rep w os)
  have F : Fin3 w S' := ⟨T, R⟩
  have hg : S'.gens = #[] := R.gens
  have hlw : leftWithCleanup S'.gens = false := by rw [hg]; simp [leftWithCleanup]
  obtain ⟨n, r, s', s'', hs, hr, hf, ⟨hr', hs''⟩⟩ := wp_halts_full (M := model pw w) (c := .builtin "claim.caller" {}) (t := (topStub pw).cur) (R := fun r s' => r = .ok (.ret .none) ∧ s' = S') (p := default) z
    (wp _ _ ⟨⟨rfl, rfl⟩, hlw⟩)
  subst hr'
  subst hs''
  have e'' : s'' = s' := Shared.ext_gens hf hg
  subst e''
  obtain ⟨k, t', hk, ht⟩ := before_done n _ _ _ hr
  have hend : outcomeOf (.ok (.ret .none)) = .done (.ret .none) := rfl
  have hseq : Sequential (denote table) pw w ⟨boot_heap w.params, #[], boot_drawn, boot_toks, os⟩ (topStub pw) := by
    have B := (wp_iff_halts (M := model pw w) (c := .builtin "claim.caller" {}) (topStub pw).cur (fun r s' => r = .ok (.ret .none) ∧ s' = s'') default ⟨boot_heap w.params, #[], boot_drawn, boot_toks, os⟩).mp (wp _ _ ⟨⟨rfl, rfl⟩, hlw⟩)
    obtain ⟨n₁, r₁, s₁, hn₁, hr₁, rfl⟩ := B
    obtain ⟨s₂, h₂, _, hc⟩ := runNI_real (denote table) pw w hn₁ (outcomeOf_ends r₁)
    refine ⟨hc, fun k s₃ hk => ?_⟩
    have a : runN (denote table) pw w (n₁ + k) ⟨boot_heap w.params, #[], boot_drawn, boot_toks, os⟩ (topStub pw) = _ := runN_mono (denote table) pw w n₁ k _ _ _ _ h₂
    have b := runN_mono (denote table) pw w k n₁ _ _ _ _ hk
    rw [Nat.add_comm, b] at a
    injection a with a1 _
    subst hr₁
    cases a1
  have hsched := schedN_eq_runN (denote table) pw w _ _ z hseq k
  have hk' : runN (denote table) pw w k ⟨boot_heap w.params, #[], boot_drawn, boot_toks, os⟩ (topStub pw) = .running s'' t' := hk
  rw [hk'] at hsched
  have h3 : s''.heap.get? mainNs = some (F3 w.params) := F.get 10 rfl
  have h2 : s''.heap.get? cStatics = some F2 := F.get 9 rfl
  have stat : ∀ key, staticOf s''.heap key = none := fun key => by
    unfold staticOf; rw [h2]; rfl
  refine ⟨s'', ⟨⟨k, t', hsched, ht⟩, st.1, Shared.rest_eq st.2.2, fun b o hb hn => ?_, ?_, ?_, ?_, ?_, ?_, ?_, ?_, ?_⟩, Shared.asleep_of_life st.1 z, F⟩
  · have hlt : b < 11 := by have := Heap.lt_size hb; exact this
    have h : ¬ (b = 3 ∨ b = 2 ∨ b = 6) := fun h => hn (by
      rcases h with rfl | rfl | rfl
      · exact .inl rfl
      · exact .inr (.inl rfl)
      · exact .inr (.inr rfl))
    match b, hlt, h, hb with
    | 0, _, _, hb => exact (F.get 0 rfl).trans hb
    | 1, _, _, hb => exact (F.get 1 rfl).trans hb
    | 4, _, _, hb => exact (F.get 2 rfl).trans hb
    | 5, _, _, hb => exact (F.get 3 rfl).trans hb
    | 7, _, _, hb => exact (F.get 5 rfl).trans hb
    | 8, _, _, hb => exact (F.get 6 rfl).trans hb
    | 9, _, _, hb => exact (F.get 7 rfl).trans hb
    | 10, _, _, hb => exact (F.get 8 rfl).trans hb
    | 2, _, h, _ => exact absurd (.inr (.inl rfl)) h
    | 3, _, h, _ => exact absurd (.inl rfl) h
    | 6, _, h, _ => exact absurd (.inr (.inr rfl)) h
    | n + 11, hlt, _, _ => exact absurd hlt (Nat.not_lt.mpr (Nat.le_add_left 11 n))
  · intro key v hv
    rw [stat] at hv; cases hv
  · intro key
    rw [stat]
    exact .inl rfl
  · exact ⟨_, _, _, h3, rfl, global_keys w.params⟩
  · intro x hx
    rw [Pin.builtinOf_eq (top_builtins F).1]
    exact (top_builtins F).2 x hx
  · refine ⟨4, _, ?_, F.get 2 rfl, rfl, rfl⟩
    show globalOf s''.heap "__builtins__" = _
    unfold globalOf
    rw [h3]
    rfl
  · intro g hg'
    rw [hg] at hg'
    exact absurd hg' (Array.not_mem_empty g)
  · intro x v hv
    unfold globalOf at hv
    rw [h3] at hv
    have hv : ((entriesOf (F3 w.params)).find? (·.key.isStr x)).map (·.val) = some v := hv
    obtain ⟨e, he, _⟩ := Option.map_eq_some_iff.mp hv
    have hm := Array.mem_of_find?_eq_some he
    have hp := Array.find?_some he
    have := List.all_eq_true.mp (bound_names_ok w.params) e (Array.mem_toList_iff.mpr hm)
    obtain ⟨y, t, hk⟩ := global_keys w.params e hm
    unfold nameBound at this
    rw [hk] at this hp
    have hy : y = x := by simpa [Value.isStr] using hp
    subst hy
    rcases Bool.or_eq_true_iff.mp this with q | q
    · exact .inl (List.contains_iff_mem.mp q)
    · exact .inr (List.contains_iff_mem.mp q)
  · intro x hx
    have := of_decide_eq_true (List.all_eq_true.mp (laid_names w.params) x hx)
    unfold globalOf
    rw [h3]
    exact this
end Tk

namespace Tk
open PySem PySem.W Tk2 PySem.Calls PyProof.Rows PySem.Spec

noncomputable def Gr (P : Params) (h : Heap) : Prop := ∀ x ∈ finL P, h.get? x.1 = some x.2
theorem fin_alive (P : Params) : ∀ x ∈ finL P, alive x.2 = some x.2 := by
  intro x hx
  have : ((finL P).all fun x => match x.2.data with | .freed => false | _ => true) = true := rfl
  have := List.all_eq_true.mp this x hx
  obtain ⟨a, ⟨c, d, dt, sl⟩⟩ := x
  cases dt <;> first | rfl | cases this
theorem Fin3.gr {w : World} {S : Shared} (F : Fin3 w S) : Gr w.params S.heap := fun x hx => let ⟨_, R⟩ := F; fin_get R hx (fin_alive _ x hx)
theorem Gr.keeps {P : Params} {h h' : Heap} (G : Gr P h) (k : ∀ b o, h.get? b = some o → h'.get? b = some o) : Gr P h' := fun x hx => k _ _ (G x hx)
theorem Gr.at {P : Params} {h : Heap} (G : Gr P h) {a : Addr} {o : Obj} (i : Nat) (e : (finL P)[i]? = some (a, o)) : h.get? a = some o := G _ (in_fin i e)

noncomputable abbrev gCall : PySem.Ctx := ⟨.builtin "claim.caller" {}, none, none, [], none⟩
noncomputable abbrev Walk : Prop := ∀ (w : World) (s₁ : Shared) (l : Addr) (vs : List Value) (ns : List Int), Gr w.params s₁.heap → s₁.gens = #[] → s₁.heap.IsList l vs.toArray → IntsAre vs ns → ns.length ≤ 63 →
  ∀ p, Sem.wp (model pw w) gCall (PySem.call (.ref 3599) [.ref l]) (fun v _ s' => v = .bool true ∧ (∀ b o, s₁.heap.get? b = some o → s'.heap.get? b = some o) ∧ s'.os = s₁.os ∧ s'.gens = #[]) (fun _ _ _ => False) p s₁

theorem thread_endsC {prog : Program} {w : World} {t : Sem Fin} {s : Shared} {R : Result → Shared → Prop} (hreg : s.asleep)
    (h : ∀ p, Sem.wp (model prog w) gCall t (fun fin _ s' => ∃ f, fin = .done f ∧ (R (.ok f) s' ∧ leftWithCleanup s'.gens = false)) (fun _ _ _ => False) p s) :
    ∃ n r s' s'', runN (denote table) prog w n s ⟨t, .builtin "claim.caller" {}, default, []⟩ = .halted (outcomeOf r) s' ∧
      schedN (denote table) prog w n (.single s ⟨t, .builtin "claim.caller" {}, default, []⟩) = .halted (outcomeOf r) s' ∧ s'.forget = s''.forget ∧ R r s'' := by
  refine Classical.byContradiction fun hG0 => ?_
  have h' : Sem.wp (model prog w) gCall t (Sem.finPost (model prog w) gCall (fun r s' => R r s' ∧ leftWithCleanup s'.gens = false)) (fun e _ s' => R (.error e) s' ∧ leftWithCleanup s'.gens = false) default s := by
    refine Sem.wp_mono (model prog w) gCall t (fun fin p' s' h' => ?_) (fun _ _ _ h' => h'.elim) default s (h default)
    obtain ⟨f, rfl, hf⟩ := h'
    exact hf
  obtain ⟨n, r, s₁, s₂, hs, hn, hfo, hR⟩ := wp_halts_full (M := model prog w) (R := R) hreg h'
  refine hG0 ?_
  exact ⟨n, r, s₂, s₁, hn, hs, hfo, hR⟩
theorem callFromC {c : ClaimW} {tree : List Value → Sem Fin} {w : World} {s : Shared} {free : Addr → Prop} {gens : Prop} {kept : Heap → Prop} (hz : s.asleep) (hgens : s.gens = #[])
    (hspec : ∀ args, c.pre args = true → WData.layableAll args = true →
      ∀ ord : List DictEntry → List DictEntry, (∀ l, (ord l).Perm l) →
      ∃ vs s₁, layAllW c.records (classAt s.heap) w.params ord args s = some (vs, s₁) ∧
        ∀ p, Sem.wp (model c.prog w) gCall (tree vs) (fun fin _ s' => ∃ f, fin = .done f ∧ (c.Ends s args vs s₁ (.ok f) s' ∧ s'.os = s.os ∧ AllBare s'.gens ∧ kept s'.heap)) (fun _ _ _ => False) p s₁) :
    c.CallFrom (fun vs => ⟨tree vs, .builtin "claim.caller" {}, default, []⟩) w free gens kept s := by
  intro args hpre hlay ord hord
  refine Classical.byContradiction fun hG0 => ?_
  obtain ⟨vs, s₁, hlaid, hcode⟩ := hspec args hpre hlay ord hord
  have hal := layAllW_rest _ _ _ hlaid
  obtain ⟨k, r, s', s'', hrun, hsched, hfo, hcase, hos, hkp⟩ := thread_endsC (prog := c.prog) (w := w) (t := tree vs) (s := s₁)
    (R := fun r s' => c.Ends s args vs s₁ r s' ∧ s'.os = s.os ∧ kept s'.heap)
    (Shared.asleep_of_life hal.2.2.2 hz)
    (fun p => Sem.wp_mono _ _ _ (by
      rintro fin _ s' ⟨f, e, h1, h2, h3, h4⟩
      exact ⟨f, e, ⟨h1, h2, h4⟩, leftWithCleanup_false_of_bare h3⟩) (fun _ _ _ x => x) p _ (hcode p))
  obtain ⟨eh, _, _, eo, _⟩ := Shared.forget_eq hfo
  refine hG0 ?_
  have hcase := hcase.congr eh
  have hkp : kept s'.heap := by first | exact eh ▸ hkp | (rw [eh] at hkp; exact hkp) | (rw [← eh] at hkp; exact hkp)
  rw [← eo] at hos
  have hlife : s'.heap.life = s.heap.life := (runN_life _ _ _ hrun).trans hal.2.2.2
  refine ⟨vs, s₁, hlaid, k, _, s', hsched, ?_, (fun _ i x hx => by rw [hgens] at hx; simp at hx), hkp, by rw [hlife], Shared.rest_eq hos⟩
  rcases hcase with ⟨v, rfl, d1, d2, d3, d4, d5⟩ | ⟨e, ob, cls, rfl, d1, d2, d3, d4, d5⟩
  · exact .inl ⟨v, rfl, d1, d2, d3, fun b o y _ => d4 b o y, d5⟩
  · exact .inr ⟨e, ob, cls, rfl, d1, d2, d3, d4, fun b o y _ => d5 b o y⟩

theorem global_law (P : Params) : findIn3 (F3 P) (PySem.Str.ofString "law") = some (.ref 3599) := by
  have : (fun P : Params => findIn3 (F3 P) (PySem.Str.ofString "law")) = fun _ => some (.ref 3599) := by kernel_rfl
  exact congrFun this P
theorem law_def {P : Params} {h : Heap} (G : Gr P h) : isTheDefsW pw h (PySem.Str.ofString "law") := by
  have h3 : h.get? mainNs = some (F3 P) := G.at 10 rfl
  refine ⟨3599, F3599, _, argsOf (stAt 41), bodyOf (stAt 41), scopeOf (stAt 41), ?_, G.at 77 rfl, rfl, ?_, rfl, rfl, rfl, rfl, rfl, rfl, rfl, rfl, .inl ⟨rfl, rfl⟩, [], rfl, .inl ⟨rfl, rfl⟩⟩
  · unfold globalOf
    rw [h3]
    exact global_law P
  · kernel_rfl

theorem row_holds (walk : Walk) (said : PySem.Challenge.rw_tk0120_01.row.wellSaid = true) (hw : PySem.Challenge.rw_tk0120_01.row.toRowW.promised) : PySem.Challenge.rw_tk0120_01.row.Holds := by
  refine ⟨said, hw, ⟨?bare, ?opens, rfl⟩, hw.witness, fun w => ⟨(behind w).1, fun s hs => ?_⟩⟩
  case bare => exact ⟨rfl, rfl, rfl, rfl, rfl, by decide +kernel⟩
  case opens => show opensWell pw = true; decide +kernel
  obtain ⟨s₀, hf, hg0, s₁, hT, hz, F⟩ := (behind w).2 s hs
  have hgens : s₁.gens = #[] := let ⟨_, R⟩ := F; R.gens
  refine ⟨s₀, hf, hg0, s₁, hT, fun n hn => ?_, fun x hx => (nomatch hx), fun x hx => (nomatch hx), ?_⟩
  · have hn : n ∈ [PySem.Str.ofString "law"] := hn
    rcases List.mem_singleton.mp hn with rfl
    exact law_def F.gr
  refine callFromC (c := PySem.Challenge.rw_tk0120_01.row.toRowW.claim) (tree := fun vs => do match ← nsGet mainNs (PySem.Str.ofString "law") with
      | some f => do ret (← PySem.call f vs)
      | none => unsupported "claim.caller:no-such-global") hz hgens fun args hpre hlay ord hord => ?_
  obtain ⟨⟨vs, s₂⟩, hlaid⟩ := Option.isSome_iff_exists.mp (layAllW_isSome (R := []) (cl := classAt s₁.heap) (P := w.params) (ord := ord) (fun c hc => (nomatch hc)) args [.list .int] s₁ (pre_splitW hpre).1)
  have keeps := layAllW_keeps _ _ _ hlaid
  have hal := layAllW_rest _ _ _ hlaid
  obtain ⟨as, hrd, hin, hold⟩ := reads_layAllW hord _ _ _ hlaid hlay s₂.heap (fun _ _ e => e)
  have L : Laid [] w s₁ s₂ args vs as := ⟨⟨ord, hord, hlaid⟩, hrd, hin, hold, keeps, hal.1.trans hgens, hal.2.2.1⟩
  have h3 : s₂.heap.get? mainNs = some (F3 w.params) := (F.gr.keeps keeps).at 10 rfl
  have G := F.gr.keeps keeps
  refine ⟨vs, s₂, hlaid, ?_⟩
  have hwl : WellAll w.params s₂.heap vs args := well_layAllW hord args s₁ _ hlaid _ fun _ _ e => e
  have hsz : sysModules < s₁.heap.objs.size := by
    obtain ⟨T, R⟩ := F
    rw [R.size]; show 1 < 3600; decide
  have hlo : ∀ a ∈ as, (a == sysModules) = false := L.low hsz
  have hg2 : s₂.gens = #[] := hal.1.trans hgens
  have hos : s₂.os = s₁.os := hal.2.2.1
  wrow_args hpre hlay hrd hwl hlo
  rename_i ns _ _ _ _ _ as1 as2 l vs2 _ hl _ _ _ hI _ hlen _
  have hrow : PySem.Challenge.rw_tk0120_01.row.toRowW.within = [] := rfl
  have hi := ident_freeW (r := PySem.Challenge.rw_tk0120_01.row.toRowW) rfl rfl rfl
  have hns : s₂.heap.Ns mainNs (findIn3 (F3 w.params)) := ⟨_, _, _, h3, rfl, global_keys w.params, fun _ => rfl⟩
  intro p
  rw [Sem.wp_bind', Sem.wp_nsGet _ _ _ _ _ hns, global_law]
  dsimp only
  rw [Sem.wp_bind']
  refine Sem.wp_mono _ _ _ (fun v p' s' h => ?_) (fun _ _ _ x => x) p _ (walk w s₂ l vs2 ns G hg2 hl hI (by (first | lia | omega)) p)
  obtain ⟨rfl, hk, ho, hg'⟩ := h
  show ∃ f, _
  refine ⟨_, rfl, ?_⟩
  have g : GoodWG PySem.Challenge.rw_tk0120_01.row.toRowW.claim (classAt s₁.heap) (ExcName.means s₁.heap) [ofPy (PyData.list (List.map PyData.int ns))] s₂ (.ok (.ret (.bool true))) s' :=
    GoodW.toG ⟨.inl ⟨.bool true, .bool true, [], rfl, fun _ => rfl, .bool true, ?lastly, fun _ => ⟨.nil, fun _ h => (nomatch h)⟩⟩, hk, ho, hg'⟩
  case lastly => first | wrow_post | exact postW_of rfl (PyProof.Rows.tt rfl) rfl
  have z := g.laid (c := PySem.Challenge.rw_tk0120_01.row.toRowW.claim) rfl hrow hi L
  exact ⟨z.1, z.2.1, z.2.2, fun h => by cases h⟩
theorem both_t {a b : Bool} (x : a = true) (y : b = true) : (a && b) = true := by rw [x, y]; rfl
theorem looks_law : looksOpen pw = true := by
  delta looksOpen
  iterate 5 refine both_t ?_ ?_
  all_goals decide +kernel
theorem said_row : PySem.Challenge.rw_tk0120_01.row.wellSaid = true := by
  delta OpenRow.wellSaid OpenRow.partSaid
  iterate 15 refine both_t ?_ ?_
  · exact looks_law
  all_goals decide +kernel
theorem said_law : OpenLaw.wellSaid PySem.Challenge.rw_tk0120_01 = true := by
  delta OpenLaw.wellSaid
  iterate 18 refine both_t ?_ ?_
  · exact said_row
  all_goals decide +kernel
theorem holds_of_walk (walk : Walk) : PySem.Challenge.rw_tk0120_01.Holds := by
  refine holds_law said_law fun said => ?_
  exact row_holds walk said (by w_witness2)
end Tk

namespace Tk
open PySem
noncomputable def nm_next_model : List Str := ["model", "bit"]
noncomputable def c_next_model : Ss := (.cons (.iff (.chain (.var 1) (.one .eq (.int 0))) (.cons (.ret (.bin .add (.var 0) (.bin .shr (.bin .sub (.glob 2048) (.var 0)) (.glob 5)))) .nil) .nil) (.cons (.ret (.bin .sub (.var 0) (.bin .shr (.var 0) (.glob 5)))) .nil))
theorem chk_next_model : chkSs nm_next_model (scopeOf (stAt 20)) c_next_model (bodyOf (stAt 20)) = true := by decide +kernel
noncomputable def nm_need_model : List Str := ["model"]
noncomputable def c_need_model : Ss := (.cons (.iff (.or (.cons (.not (.b1 .isint (.var 0))) (.cons (.not (.chain (.glob 31) (.more .le (.var 0) (.one .le (.bin .sub (.glob 2048) (.glob 31)))))) .nil))) (.cons .raise .nil) .nil) .nil)
theorem chk_need_model : chkSs nm_need_model (scopeOf (stAt 21)) c_need_model (bodyOf (stAt 21)) = true := by decide +kernel
noncomputable def nm_need_bit : List Str := ["bit"]
noncomputable def c_need_bit : Ss := (.cons (.iff (.isin true (.var 0) (.cons (.int 0) (.cons (.int 1) .nil))) (.cons .raise .nil) .nil) .nil)
theorem chk_need_bit : chkSs nm_need_bit (scopeOf (stAt 22)) c_need_bit (bodyOf (stAt 22)) = true := by decide +kernel
noncomputable def nm_price_of : List Str := ["chance", "high", "turn", "over"]
noncomputable def c_price_of : Ss := (.cons (.iff (.or (.cons (.not (.b1 .isint (.var 0))) (.cons (.not (.chain (.int 0) (.more .lt (.var 0) (.one .le (.glob 2048))))) .nil))) (.cons .raise .nil) .nil) (.cons (.asg 1 (.int 0)) (.cons (.for_ 2 (.range (.glob 4)) (.cons (.aug 0 .mul (.var 0)) (.cons (.asg 3 (.max2 (.int 0) (.bin .sub (.b1 .bitlen (.var 0)) (.glob 16)))) (.cons (.aug 0 .shr (.var 3)) (.cons (.asg 1 (.bin .add (.bin .mul (.int 2) (.var 1)) (.var 3))) .nil))))) (.cons (.ret (.bin .sub (.bin .sub (.bin .mul (.glob 16) (.glob 11)) (.var 1)) (.bin .sub (.b1 .bitlen (.var 0)) (.int 1)))) .nil))))
theorem chk_price_of : chkSs nm_price_of (scopeOf (stAt 25)) c_price_of (bodyOf (stAt 25)) = true := by decide +kernel
noncomputable def nm_bit_price : List Str := ["model", "bit", "chance"]
noncomputable def c_bit_price : Ss := (.cons (.asg 2 (.ite (.chain (.var 1) (.one .eq (.int 0))) (.var 0) (.bin .sub (.glob 2048) (.var 0)))) (.cons (.ret (.sub .prices (.bin .shr (.var 2) (.glob 4)))) .nil))
theorem chk_bit_price : chkSs nm_bit_price (scopeOf (stAt 28)) c_bit_price (bodyOf (stAt 28)) = true := by decide +kernel
noncomputable def nm_exact_price : List Str := ["model", "bit"]
noncomputable def c_exact_price : Ss := (.cons (.exp (.call 104 (.cons (.var 0) .nil))) (.cons (.exp (.call 111 (.cons (.var 1) .nil))) (.cons (.ret (.call 287 (.cons (.ite (.chain (.var 1) (.one .eq (.int 0))) (.var 0) (.bin .sub (.glob 2048) (.var 0))) .nil))) .nil)))
theorem chk_exact_price : chkSs nm_exact_price (scopeOf (stAt 29)) c_exact_price (bodyOf (stAt 29)) = true := by decide +kernel
noncomputable def nm_l_jar : List Str := ["script", "cell", "digits", "mixed"]
noncomputable def c_l_jar : Ss := (.cons (.asgs [2, 3] (.cons (.int 0) (.cons (.int 1) .nil))) (.cons (.for_ 1 (.elems (.upto (.var 0) (.int 40))) (.cons (.iff (.chain (.b1 .abs (.var 1)) (.one .ge (.bin .pow (.int 10) (.int 18)))) (.cons (.asg 2 (.bin .sub (.bin .add (.var 2) (.b1 .abs (.var 1))) (.bin .pow (.int 10) (.int 18)))) .nil) (.cons (.asg 3 (.bin .add (.int 1) (.bin .mod (.bin .add (.bin .mul (.var 3) (.int 1009)) (.var 1)) (.int 2147483629)))) .nil)) .nil)) (.cons (.ret (.list (.cons (.var 2) (.cons (.var 3) .nil)))) .nil)))
theorem chk_l_jar : chkSs nm_l_jar (scopeOf (stAt 31)) c_l_jar (bodyOf (stAt 31)) = true := by decide +kernel
noncomputable def nm_l_take : List Str := ["jar", "many", "digit"]
noncomputable def c_l_take : Ss := (.cons (.iff (.chain (.sub (.var 0) (.int 0)) (.one .gt (.int 0))) (.cons (.asg 2 (.bin .mod (.sub (.var 0) (.int 0)) (.var 1))) (.cons (.setItem (.var 0) (.int 0) (.bin .fdiv (.sub (.var 0) (.int 0)) (.var 1))) (.cons (.ret (.var 2)) .nil))) .nil) (.cons (.setItem (.var 0) (.int 1) (.bin .mod (.bin .mul (.sub (.var 0) (.int 1)) (.int 48271)) (.int 2147483647))) (.cons (.ret (.bin .mod (.bin .fdiv (.sub (.var 0) (.int 1)) (.int 1024)) (.var 1))) .nil)))
theorem chk_l_take : chkSs nm_l_take (scopeOf (stAt 32)) c_l_take (bodyOf (stAt 32)) = true := by decide +kernel
noncomputable def nm_l_models : List Str := ["jar", "side", "kind", "found", "spot"]
noncomputable def c_l_models : Ss := (.cons (.asg 2 (.call 3542 (.cons (.var 0) (.cons (.int 4) .nil)))) (.cons (.iff (.chain (.var 2) (.one .eq (.int 0))) (.cons (.asg 3 (.list (.cons (.bin .add (.int 31) (.call 3542 (.cons (.var 0) (.cons (.int 1987) .nil)))) (.cons (.bin .add (.int 31) (.call 3542 (.cons (.var 0) (.cons (.int 1987) .nil)))) .nil)))) .nil) (.cons (.iff (.chain (.var 2) (.one .eq (.int 1))) (.cons (.asg 3 (.list (.cons (.bin .add (.int 31) (.call 3542 (.cons (.var 0) (.cons (.int 70) .nil)))) (.cons (.bin .add (.int 31) (.call 3542 (.cons (.var 0) (.cons (.int 70) .nil)))) .nil)))) (.cons (.iff (.chain (.var 1) (.one .eq (.int 0))) (.cons (.asg 3 (.list (.cons (.bin .sub (.int 2048) (.sub (.var 3) (.int 0))) (.cons (.bin .sub (.int 2048) (.sub (.var 3) (.int 1))) .nil)))) .nil) .nil) .nil)) (.cons (.iff (.chain (.var 2) (.one .eq (.int 2))) (.cons (.asg 4 (.bin .add (.int 32) (.bin .mul (.int 32) (.call 3542 (.cons (.var 0) (.cons (.int 63) .nil)))))) (.cons (.asg 3 (.list (.cons (.var 4) (.cons (.bin .sub (.bin .add (.var 4) (.int 1)) (.bin .mul (.int 2) (.call 3542 (.cons (.var 0) (.cons (.int 2) .nil))))) .nil)))) .nil)) (.cons (.asg 3 (.list (.cons (.bin .add (.int 31) (.call 3542 (.cons (.var 0) (.cons (.int 5) .nil)))) (.cons (.bin .sub (.int 2017) (.call 3542 (.cons (.var 0) (.cons (.int 5) .nil)))) .nil)))) .nil)) .nil)) .nil)) (.cons (.ret (.b1 .sorted (.var 3))) .nil)))
theorem chk_l_models : chkSs nm_l_models (scopeOf (stAt 33)) c_l_models (bodyOf (stAt 33)) = true := by decide +kernel
noncomputable def nm_l_bits : List Str := ["jar", "most", "many", "bit", "spot", "k"]
noncomputable def c_l_bits : Ss := (.cons (.asg 2 (.bin .add (.int 3) (.call 3542 (.cons (.var 0) (.cons (.bin .sub (.var 1) (.int 2)) .nil))))) (.cons (.iff (.chain (.call 3542 (.cons (.var 0) (.cons (.int 3) .nil))) (.one .gt (.int 0))) (.cons (.ret (.comp (.call 3542 (.cons (.var 0) (.cons (.int 2) .nil))) 5 [0] (.range (.var 2)))) .nil) .nil) (.cons (.asgs [3, 4] (.cons (.call 3542 (.cons (.var 0) (.cons (.int 2) .nil))) (.cons (.call 3542 (.cons (.var 0) (.cons (.var 2) .nil))) .nil))) (.cons (.ret (.comp (.ite (.chain (.var 5) (.one .ne (.var 4))) (.var 3) (.bin .sub (.int 1) (.var 3))) 5 [3, 4] (.range (.var 2)))) .nil))))
theorem chk_l_bits : chkSs nm_l_bits (scopeOf (stAt 34)) c_l_bits (bodyOf (stAt 34)) = true := by decide +kernel
noncomputable def nm_l_turns : List Str := ["lack", "found", "part", "many"]
noncomputable def c_l_turns : Ss := (.cons (.asg 1 (.int 0)) (.cons (.for_ 2 (.range3 (.int 63) (.int 0) (.neg (.int 1))) (.cons (.iff (.chain (.var 0) (.one .ge (.bin .mul (.int 32) (.var 2)))) (.cons (.asg 3 (.bin .add (.bin .fdiv (.bin .sub (.var 0) (.bin .mul (.int 32) (.var 2))) (.var 2)) (.int 1))) (.cons (.asgs [1, 0] (.cons (.bin .add (.var 1) (.var 3)) (.cons (.bin .sub (.var 0) (.bin .mul (.var 2) (.var 3))) .nil))) .nil)) .nil) .nil)) (.cons (.ret (.var 1)) .nil)))
theorem chk_l_turns : chkSs nm_l_turns (scopeOf (stAt 35)) c_l_turns (bodyOf (stAt 35)) = true := by decide +kernel
noncomputable def nm_l_led : List Str := ["model", "bits", "bit"]
noncomputable def c_l_led : Ss := (.cons (.for_ 2 (.elems (.var 1)) (.cons (.asg 0 (.call 97 (.cons (.var 0) (.cons (.var 2) .nil)))) .nil)) (.cons (.ret (.var 0)) .nil))
theorem chk_l_led : chkSs nm_l_led (scopeOf (stAt 36)) c_l_led (bodyOf (stAt 36)) = true := by decide +kernel
noncomputable def nm_l_gap_right : List Str := ["low", "high", "bits", "turn", "bit", "gap", "other"]
noncomputable def c_l_gap_right : Ss := (.cons (.iff (.or (.cons (.chain (.call 3521 (.cons (.var 0) (.cons (.int 0) .nil))) (.one .lt (.call 3521 (.cons (.var 1) (.cons (.int 0) .nil))))) (.cons (.chain (.call 3521 (.cons (.var 0) (.cons (.int 1) .nil))) (.one .gt (.call 3521 (.cons (.var 1) (.cons (.int 1) .nil))))) .nil))) (.cons (.ret (.bool false)) .nil) .nil) (.cons (.for_ 3 (.range (.max2 (.b1 .len (.var 2)) (.call 3561 (.cons (.bin .sub (.var 1) (.var 0)) .nil)))) (.cons (.asgs [4, 5, 6] (.cons (.sub (.var 2) (.bin .mod (.var 3) (.b1 .len (.var 2)))) (.cons (.bin .sub (.var 1) (.var 0)) (.cons (.bin .sub (.int 2048) (.var 0)) .nil)))) (.cons (.asgs [0, 1] (.cons (.call 97 (.cons (.var 0) (.cons (.var 4) .nil))) (.cons (.call 97 (.cons (.var 1) (.cons (.var 4) .nil))) .nil))) (.cons (.iff (.or (.cons (.not (.chain (.int 31) (.more .le (.var 0) (.more .le (.var 1) (.one .le (.int 2017)))))) (.cons (.isin true (.bin .sub (.var 1) (.var 0)) (.cons (.bin .fdiv (.bin .mul (.int 31) (.var 5)) (.int 32)) (.cons (.bin .sub (.var 5) (.bin .fdiv (.var 5) (.int 32))) .nil))) .nil))) (.cons (.ret (.bool false)) .nil) .nil) (.cons (.iff (.chain (.call 97 (.cons (.var 6) (.cons (.bin .sub (.int 1) (.var 4)) .nil))) (.one .ne (.bin .sub (.int 2048) (.var 0)))) (.cons (.ret (.bool false)) .nil) .nil) .nil))))) (.cons (.ret (.chain (.bin .sub (.var 1) (.var 0)) (.one .le (.int 31)))) .nil)))
theorem chk_l_gap_right : chkSs nm_l_gap_right (scopeOf (stAt 37)) c_l_gap_right (bodyOf (stAt 37)) = true := by decide +kernel
noncomputable def nm_l_order_right : List Str := ["model", "bits", "later", "sooner", "under", "over"]
noncomputable def c_l_order_right : Ss := (.cons (.asgs [2, 3] (.cons (.call 3568 (.cons (.var 0) (.cons (.list (.cons (.int 1) (.cons (.int 0) .nil))) .nil))) (.cons (.call 3568 (.cons (.var 0) (.cons (.list (.cons (.int 0) (.cons (.int 1) .nil))) .nil))) .nil))) (.cons (.iff (.chain (.bin .sub (.var 2) (.var 3)) (.one .ne (.ite (.and (.cons (.chain (.bin .mod (.var 0) (.int 32)) (.one .eq (.int 0))) (.cons (.chain (.var 0) (.one .ne (.int 1024))) .nil))) (.int 1) (.int 2)))) (.cons (.ret (.bool false)) .nil) .nil) (.cons (.asgs [4, 5] (.cons (.call 3568 (.cons (.var 0) (.cons (.b1 .sorted (.var 1)) .nil))) (.cons (.call 3568 (.cons (.var 0) (.cons (.rev (.b1 .sorted (.var 1))) .nil))) .nil))) (.cons (.iff (.not (.chain (.var 4) (.more .le (.call 3568 (.cons (.var 0) (.cons (.var 1) .nil))) (.one .le (.var 5))))) (.cons (.ret (.bool false)) .nil) .nil) (.cons (.ret (.chain (.bin .sub (.var 5) (.var 4)) (.one .le (.bin .mul (.bin .mul (.int 2) (.b1 .sum (.var 1))) (.bin .sub (.b1 .len (.var 1)) (.b1 .sum (.var 1))))))) .nil)))))
theorem chk_l_order_right : chkSs nm_l_order_right (scopeOf (stAt 38)) c_l_order_right (bodyOf (stAt 38)) = true := by decide +kernel
noncomputable def nm_l_run_right : List Str := ["model", "bit", "turn", "some", "end", "lack", "turns", "row", "same", "other", "now"]
noncomputable def c_l_run_right : Ss := (.cons (.asgIf [4, 5] (.chain (.var 1) (.one .eq (.int 0))) (.cons (.int 2017) (.cons (.bin .sub (.int 2048) (.var 0)) .nil)) (.cons (.int 31) (.cons (.var 0) .nil))) (.cons (.asgs [6, 7] (.cons (.call 3561 (.cons (.var 5) .nil)) (.cons (.list (.cons (.var 0) .nil)) .nil))) (.cons (.for_ 2 (.range (.bin .add (.var 6) (.int 2))) (.cons (.append (.var 7) (.call 97 (.cons (.sub (.var 7) (.neg (.int 1))) (.cons (.var 1) .nil)))) .nil)) (.cons (.iff (.or (.cons (.chain (.from (.var 7) (.var 6)) (.one .ne (.bin .mul (.list (.cons (.var 4) .nil)) (.int 3)))) (.cons (.inl (.var 4) (.upto (.var 7) (.var 6))) .nil))) (.cons (.ret (.bool false)) .nil) .nil) (.cons (.asg 3 (.bin .add (.every (.var 7) 8) (.list (.cons (.var 4) .nil)))) (.cons (.asgs [8, 9] (.cons (.comp (.call 3521 (.cons (.var 10) (.cons (.var 1) .nil))) 10 [1] (.elems (.var 3))) (.cons (.comp (.call 3521 (.cons (.var 10) (.cons (.bin .sub (.int 1) (.var 1)) .nil))) 10 [1] (.elems (.var 3))) .nil))) (.cons (.iff (.or (.cons (.chain (.var 8) (.one .ne (.rev (.b1 .sorted (.var 8))))) (.cons (.chain (.var 9) (.one .ne (.b1 .sorted (.var 9)))) .nil))) (.cons (.ret (.bool false)) .nil) .nil) (.cons (.ret (.and (.cons (.chain (.call 3528 (.cons (.var 4) (.cons (.var 1) .nil))) (.one .le (.call 3528 (.cons (.var 0) (.cons (.var 1) .nil))))) (.cons (.chain (.call 3528 (.cons (.var 4) (.cons (.bin .sub (.int 1) (.var 1)) .nil))) (.one .ge (.call 3528 (.cons (.var 0) (.cons (.bin .sub (.int 1) (.var 1)) .nil))))) .nil)))) .nil))))))))
theorem chk_l_run_right : chkSs nm_l_run_right (scopeOf (stAt 39)) c_l_run_right (bodyOf (stAt 39)) = true := by decide +kernel
noncomputable def nm_l_coder_right : List Str := ["models", "bits", "side", "run", "text", "bit", "octets", "told", "low", "high", "first", "one", "other", "spare", "alone", "here", "there", "place", "reader", "model"]
noncomputable def c_l_coder_right : Ss := (.cons (.asg 3 (.call 3561 (.cons (.b1 .max (.comp (.ite (.chain (.var 2) (.one .eq (.int 1))) (.var 19) (.bin .sub (.int 2048) (.var 19))) 19 [2] (.elems (.var 0)))) .nil))) (.cons (.asg 4 (.bin .add (.ite (.chain (.var 3) (.one .lt (.int 50))) (.bin .mul (.list (.cons (.var 2) .nil)) (.var 3)) (.list .nil)) (.var 1))) (.cons (.asgs [8, 9, 10] (.cons (.sub (.var 0) (.int 0)) (.cons (.sub (.var 0) (.int 1)) (.cons (.int 0) .nil)))) (.cons (.for_ 5 (.elems (.var 4)) (.cons (.asg 10 (.bin .add (.var 10) (.b1 .int (.chain (.var 8) (.one .ne (.var 9)))))) (.cons (.asgs [8, 9] (.cons (.call 97 (.cons (.var 8) (.cons (.var 5) .nil))) (.cons (.call 97 (.cons (.var 9) (.cons (.var 5) .nil))) .nil))) .nil))) (.cons (.asgs [11, 12, 13] (.cons (.call 276 .nil) (.cons (.call 276 .nil) (.cons (.call 276 .nil) .nil)))) (.cons (.asgs [14, 15, 16] (.cons (.list (.cons (.sub (.var 0) (.int 0)) .nil)) (.cons (.list (.cons (.sub (.var 0) (.int 0)) .nil)) (.cons (.list (.cons (.sub (.var 0) (.int 1)) .nil)) .nil)))) (.cons (.forEnum 17 5 (.var 4) (.cons (.exp (.meth (.var 11) 3 (.cons (.var 14) (.cons (.int 0) (.cons (.var 5) .nil))))) (.cons (.exp (.meth (.var 12) 3 (.cons (.ite (.chain (.var 17) (.one .lt (.var 10))) (.var 15) (.var 16)) (.cons (.int 0) (.cons (.var 5) .nil))))) (.cons (.iff (.chain (.var 17) (.one .lt (.var 10))) (.cons (.exp (.meth (.var 13) 3 (.cons (.var 16) (.cons (.int 0) (.cons (.var 5) .nil))))) .nil) .nil) .nil)))) (.cons (.asg 6 (.meth (.var 11) 6 .nil)) (.cons (.iff (.or (.cons (.chain (.meth (.var 12) 6 .nil) (.one .ne (.var 6))) (.cons (.chain (.var 14) (.one .ne (.list (.cons (.var 8) .nil)))) (.cons (.chain (.var 16) (.one .ne (.list (.cons (.var 9) .nil)))) (.cons (.and (.cons (.chain (.var 10) (.one .eq (.b1 .len (.var 4)))) (.cons (.chain (.var 15) (.one .ne (.list (.cons (.var 8) .nil)))) .nil))) .nil))))) (.cons (.ret (.bool false)) .nil) .nil) (.cons (.asgs [18, 15, 16] (.cons (.call 192 (.cons (.var 6) .nil)) (.cons (.list (.cons (.sub (.var 0) (.int 0)) .nil)) (.cons (.list (.cons (.call 3568 (.cons (.sub (.var 0) (.int 1)) (.cons (.upto (.var 4) (.var 10)) .nil))) .nil)) .nil)))) (.cons (.asgComp 7 (.comp (.meth (.var 18) 3 (.cons (.ite (.chain (.var 17) (.one .lt (.var 10))) (.var 15) (.var 16)) (.cons (.int 0) .nil))) 17 [18, 15, 16, 10] (.range (.b1 .len (.var 4))))) (.cons (.ret (.and (.cons (.chain (.var 7) (.one .eq (.var 4))) (.cons (.meth (.var 18) 1 .nil) (.cons (.chain (.ite (.chain (.var 10) (.one .eq (.b1 .len (.var 4)))) (.var 15) (.var 16)) (.one .eq (.list (.cons (.var 8) .nil)))) .nil))))) .nil))))))))))))
theorem chk_l_coder_right : chkSs nm_l_coder_right (scopeOf (stAt 40)) c_l_coder_right (bodyOf (stAt 40)) = true := by decide +kernel
noncomputable def nm_law : List Str := ["script", "jar", "side", "models", "bits"]
noncomputable def c_law : Ss := (.cons (.asg 1 (.call 3535 (.cons (.var 0) .nil))) (.cons (.asg 2 (.call 3542 (.cons (.var 1) (.cons (.int 2) .nil)))) (.cons (.asg 3 (.call 3549 (.cons (.var 1) (.cons (.var 2) .nil)))) (.cons (.asg 4 (.call 3554 (.cons (.var 1) (.cons (.ite (.or (.cons (.chain (.sub (.var 1) (.int 0)) (.one .gt (.int 0))) (.cons (.chain (.b1 .len (.var 0)) (.one .gt (.int 1))) .nil))) (.int 30) (.int 10)) .nil)))) (.cons (.iff (.not (.call 3575 (.cons (.sub (.var 3) (.int 0)) (.cons (.sub (.var 3) (.int 1)) (.cons (.var 4) .nil))))) (.cons (.ret (.bool false)) .nil) .nil) (.cons (.iff (.or (.cons (.not (.call 3582 (.cons (.sub (.var 3) (.int 0)) (.cons (.var 4) .nil)))) (.cons (.not (.call 3582 (.cons (.sub (.var 3) (.int 1)) (.cons (.var 4) .nil)))) .nil))) (.cons (.ret (.bool false)) .nil) .nil) (.cons (.iff (.or (.cons (.not (.call 3587 (.cons (.sub (.var 3) (.int 0)) (.cons (.var 2) .nil)))) (.cons (.not (.call 3587 (.cons (.sub (.var 3) (.int 1)) (.cons (.var 2) .nil)))) .nil))) (.cons (.ret (.bool false)) .nil) .nil) (.cons (.ret (.call 3592 (.cons (.var 3) (.cons (.var 4) (.cons (.var 2) .nil))))) .nil))))))))
theorem chk_law : chkSs nm_law (scopeOf (stAt 41)) c_law (bodyOf (stAt 41)) = true := by decide +kernel
noncomputable def nm_rd_init : List Str := ["self", "octets", "start", "end", "turn"]
noncomputable def c_rd_init : Ss := (.cons (.setAttr (.var 0) 0 (.b1 .bytes (.var 1))) (.cons (.setAttr (.var 0) 1 (.ite (.isNone (.var 3)) (.b1 .len (.attr (.var 0) 0)) (.var 3))) (.cons (.iff (.not (.chain (.int 0) (.more .le (.var 2) (.more .le (.attr (.var 0) 1) (.one .le (.b1 .len (.attr (.var 0) 0))))))) (.cons .raise .nil) .nil) (.cons (.setAttr (.var 0) 2 (.var 2)) (.cons (.setAttr (.var 0) 3 (.var 2)) (.cons (.setAttr (.var 0) 4 (.glob 4294967295)) (.cons (.setAttr (.var 0) 5 (.int 0)) (.cons (.iff (.chain (.meth (.var 0) 0 .nil) (.one .ne (.int 0))) (.cons .raise .nil) .nil) (.cons (.for_ 4 (.range (.bin .sub (.glob 5) (.int 1))) (.cons (.setAttr (.var 0) 5 (.bin .bor (.bin .shl (.attr (.var 0) 5) (.int 8)) (.meth (.var 0) 0 .nil))) .nil)) (.cons (.iff (.chain (.attr (.var 0) 5) (.one .eq (.attr (.var 0) 4))) (.cons .raise .nil) .nil) .nil))))))))))
theorem chk_rd_init : chkSs nm_rd_init (scopeOf (stIn 23 0)) c_rd_init (bodyOf (stIn 23 0)) = true := by decide +kernel
noncomputable def nm_rd_octet : List Str := ["self"]
noncomputable def c_rd_octet : Ss := (.cons (.iff (.chain (.attr (.var 0) 3) (.one .ge (.attr (.var 0) 1))) (.cons .raise .nil) .nil) (.cons (.augAttr (.var 0) 3 .add (.int 1)) (.cons (.ret (.sub (.attr (.var 0) 0) (.bin .sub (.attr (.var 0) 3) (.int 1)))) .nil)))
theorem chk_rd_octet : chkSs nm_rd_octet (scopeOf (stIn 23 1)) c_rd_octet (bodyOf (stIn 23 1)) = true := by decide +kernel
noncomputable def nm_rd_ended : List Str := ["self"]
noncomputable def c_rd_ended : Ss := (.cons (.ret (.chain (.attr (.var 0) 5) (.one .eq (.int 0)))) .nil)
theorem chk_rd_ended : chkSs nm_rd_ended (scopeOf (stIn 23 4)) c_rd_ended (bodyOf (stIn 23 4)) = true := by decide +kernel
noncomputable def nm_rd_fill : List Str := ["self"]
noncomputable def c_rd_fill : Ss := (.cons (.iff (.chain (.attr (.var 0) 4) (.one .lt (.glob 16777216))) (.cons (.augAttr (.var 0) 4 .shl (.int 8)) (.cons (.setAttr (.var 0) 5 (.bin .bor (.bin .shl (.attr (.var 0) 5) (.int 8)) (.meth (.var 0) 0 .nil))) .nil)) .nil) .nil)
theorem chk_rd_fill : chkSs nm_rd_fill (scopeOf (stIn 23 5)) c_rd_fill (bodyOf (stIn 23 5)) = true := by decide +kernel
noncomputable def nm_rd_bit : List Str := ["self", "models", "index", "model", "bound", "found"]
noncomputable def c_rd_bit : Ss := (.cons (.asg 3 (.sub (.var 1) (.var 2))) (.cons (.asg 4 (.bin .mul (.bin .shr (.attr (.var 0) 4) (.glob 11)) (.var 3))) (.cons (.asg 5 (.b1 .int (.chain (.attr (.var 0) 5) (.one .ge (.var 4))))) (.cons (.iff (.chain (.var 5) (.one .eq (.int 0))) (.cons (.setAttr (.var 0) 4 (.var 4)) .nil) (.cons (.augAttr (.var 0) 4 .sub (.var 4)) (.cons (.augAttr (.var 0) 5 .sub (.var 4)) .nil))) (.cons (.setItem (.var 1) (.var 2) (.call 97 (.cons (.var 3) (.cons (.var 5) .nil)))) (.cons (.exp (.meth (.var 0) 2 .nil)) (.cons (.ret (.var 5)) .nil)))))))
theorem chk_rd_bit : chkSs nm_rd_bit (scopeOf (stIn 23 6)) c_rd_bit (bodyOf (stIn 23 6)) = true := by decide +kernel
noncomputable def nm_wr_init : List Str := ["self"]
noncomputable def c_wr_init : Ss := (.cons (.setAttr (.var 0) 6 .barr0) (.cons (.setAttr (.var 0) 7 (.int 0)) (.cons (.setAttr (.var 0) 4 (.glob 4294967295)) (.cons (.setAttr (.var 0) 8 (.int 0)) (.cons (.setAttr (.var 0) 9 (.int 1)) (.cons (.setAttr (.var 0) 10 (.bool false)) .nil))))))
theorem chk_wr_init : chkSs nm_wr_init (scopeOf (stIn 24 0)) c_wr_init (bodyOf (stIn 24 0)) = true := by decide +kernel
noncomputable def nm_wr_shift : List Str := ["self", "carry"]
noncomputable def c_wr_shift : Ss := (.cons (.iff (.or (.cons (.chain (.attr (.var 0) 7) (.one .lt (.glob 4278190080))) (.cons (.chain (.attr (.var 0) 7) (.one .ge (.glob 4294967296))) .nil))) (.cons (.asg 1 (.bin .shr (.attr (.var 0) 7) (.int 32))) (.cons (.append (.attr (.var 0) 6) (.bin .band (.bin .add (.attr (.var 0) 8) (.var 1)) (.int 255))) (.cons (.extend (.attr (.var 0) 6) (.bin .mul (.b1 .bytes (.list (.cons (.bin .band (.bin .add (.int 255) (.var 1)) (.int 255)) .nil))) (.bin .sub (.attr (.var 0) 9) (.int 1)))) (.cons (.setAttr (.var 0) 8 (.bin .band (.bin .shr (.attr (.var 0) 7) (.int 24)) (.int 255))) (.cons (.setAttr (.var 0) 9 (.int 0)) .nil))))) .nil) (.cons (.augAttr (.var 0) 9 .add (.int 1)) (.cons (.setAttr (.var 0) 7 (.bin .shl (.bin .band (.attr (.var 0) 7) (.bin .sub (.glob 16777216) (.int 1))) (.int 8))) .nil)))
theorem chk_wr_shift : chkSs nm_wr_shift (scopeOf (stIn 24 1)) c_wr_shift (bodyOf (stIn 24 1)) = true := by decide +kernel
noncomputable def nm_wr_fill : List Str := ["self"]
noncomputable def c_wr_fill : Ss := (.cons (.iff (.chain (.attr (.var 0) 4) (.one .lt (.glob 16777216))) (.cons (.augAttr (.var 0) 4 .shl (.int 8)) (.cons (.exp (.meth (.var 0) 4 .nil)) .nil)) .nil) .nil)
theorem chk_wr_fill : chkSs nm_wr_fill (scopeOf (stIn 24 2)) c_wr_fill (bodyOf (stIn 24 2)) = true := by decide +kernel
noncomputable def nm_wr_need_open : List Str := ["self"]
noncomputable def c_wr_need_open : Ss := (.cons (.iff (.attr (.var 0) 10) (.cons .raise .nil) .nil) .nil)
theorem chk_wr_need_open : chkSs nm_wr_need_open (scopeOf (stIn 24 3)) c_wr_need_open (bodyOf (stIn 24 3)) = true := by decide +kernel
noncomputable def nm_wr_bit : List Str := ["self", "models", "index", "bit", "model", "bound"]
noncomputable def c_wr_bit : Ss := (.cons (.exp (.call 111 (.cons (.var 3) .nil))) (.cons (.exp (.meth (.var 0) 5 .nil)) (.cons (.asg 4 (.sub (.var 1) (.var 2))) (.cons (.asg 5 (.bin .mul (.bin .shr (.attr (.var 0) 4) (.glob 11)) (.var 4))) (.cons (.iff (.chain (.var 3) (.one .eq (.int 0))) (.cons (.setAttr (.var 0) 4 (.var 5)) .nil) (.cons (.augAttr (.var 0) 7 .add (.var 5)) (.cons (.augAttr (.var 0) 4 .sub (.var 5)) .nil))) (.cons (.setItem (.var 1) (.var 2) (.call 97 (.cons (.var 4) (.cons (.var 3) .nil)))) (.cons (.exp (.meth (.var 0) 2 .nil)) .nil)))))))
theorem chk_wr_bit : chkSs nm_wr_bit (scopeOf (stIn 24 4)) c_wr_bit (bodyOf (stIn 24 4)) = true := by decide +kernel
noncomputable def nm_wr_done : List Str := ["self", "turn"]
noncomputable def c_wr_done : Ss := (.cons (.iff (.not (.attr (.var 0) 10)) (.cons (.for_ 1 (.range (.glob 5)) (.cons (.exp (.meth (.var 0) 4 .nil)) .nil)) (.cons (.setAttr (.var 0) 10 (.bool true)) .nil)) .nil) (.cons (.ret (.b1 .bytes (.attr (.var 0) 6))) .nil))
theorem chk_wr_done : chkSs nm_wr_done (scopeOf (stIn 24 9)) c_wr_done (bodyOf (stIn 24 9)) = true := by decide +kernel
end Tk

namespace Tk
open PySem

/-- a function's slots, its block, what is asked of it -/
structure Fn where
  np : Nat
  dflt : List AV := []
  body : Ss
  keep : Bool := false
noncomputable def fnList : List (Nat × Fn) := [(97, ⟨2, [], c_next_model, false⟩),
  (104, ⟨1, [], c_need_model, false⟩),
  (111, ⟨1, [], c_need_bit, false⟩),
  (287, ⟨1, [], c_price_of, false⟩),
  (3521, ⟨2, [], c_bit_price, false⟩),
  (3528, ⟨2, [], c_exact_price, false⟩),
  (3535, ⟨1, [], c_l_jar, false⟩),
  (3542, ⟨2, [], c_l_take, false⟩),
  (3549, ⟨2, [], c_l_models, false⟩),
  (3554, ⟨2, [], c_l_bits, false⟩),
  (3561, ⟨1, [], c_l_turns, false⟩),
  (3568, ⟨2, [], c_l_led, false⟩),
  (3575, ⟨3, [], c_l_gap_right, false⟩),
  (3582, ⟨2, [], c_l_order_right, false⟩),
  (3587, ⟨2, [], c_l_run_right, false⟩),
  (3592, ⟨3, [], c_l_coder_right, false⟩),
  (3599, ⟨1, [], c_law, false⟩),
  (126, ⟨2, [.int 0, .none], c_rd_init, true⟩),
  (133, ⟨1, [], c_rd_octet, false⟩),
  (154, ⟨1, [], c_rd_ended, false⟩),
  (161, ⟨1, [], c_rd_fill, false⟩),
  (168, ⟨3, [], c_rd_bit, false⟩),
  (210, ⟨1, [], c_wr_init, true⟩),
  (217, ⟨1, [], c_wr_shift, false⟩),
  (224, ⟨1, [], c_wr_fill, false⟩),
  (231, ⟨1, [], c_wr_need_open, false⟩),
  (238, ⟨4, [], c_wr_bit, false⟩),
  (273, ⟨1, [], c_wr_done, false⟩)]
noncomputable def fnTab (f : Nat) : Option Fn := fnList.lookup f
noncomputable def initOf : Nat → Option Nat
  | 192 => some 126
  | 276 => some 210
  | _ => none
noncomputable def enter (args : List AV) : En := fun i => args[i]?
/-- an object that names no label from n on -/
noncomputable def okAO (n : Nat) : AO → Bool
  | .inst _ d => decide (d < n)
  | .dict fs => fs.all fun x => match x.2 with
    | .lab m => decide (m < n)
    | _ => true
  | _ => true
noncomputable def cutSt (n : Nat) (σ : St) : Option St := if (σ.take n).all (okAO n) = true then some (σ.take n) else none
noncomputable def leaveF (keep : Bool) (n : Nat) (v : AV) (σ : St) : Option (AV × St) := match v with
  | .lab m => if n ≤ m then match σ[m]? with
    | some (.list l) => (cutSt n σ).map fun τ => (.lab n, τ ++ [.list l])
    | _ => none
    else none
  | .script => none
  | .prices => none
  | v => if keep then some (v, σ) else (cutSt n σ).map fun τ => (v, τ)
noncomputable def runFn (O : Orc) (N pr : List Int) (F : Fn) (args : List AV) (σ : St) : Option (AV × St) :=
  if args.length = F.np then match exs O N pr F.body (enter (args ++ F.dflt)) σ with
    | some (.ret v, _, σ') => leaveF F.keep σ.length v σ'
    | some (.next, _, σ') => leaveF F.keep σ.length .none σ'
    | none => none
  else none
/-- what a call of depth n makes -/
noncomputable def orc (N pr : List Int) : Nat → Orc
  | 0, _, _, _ => none
  | n + 1, f, args, σ => match initOf f with
    | some g => match orc N pr n g (.lab (σ.length + 1) :: args) (σ ++ [.dict [], .inst f σ.length]) with
      | some (.none, τ) => some (.lab (σ.length + 1), τ)
      | _ => none
    | none => match fnTab f with
      | some F => runFn (orc N pr n) N pr F args σ
      | none => none
end Tk

namespace Tk.P
open PySem

theorem le_line {n : Nat} (h : Nat.ble n 1048576 = true) : n ≤ lineOf := Nat.le_of_ble_eq_true h
theorem le_line1 {n : Nat} (h : n ≤ 1000) : n ≤ lineOf := Nat.le_trans h (by decide)
theorem le_1000 {n m : Nat} (h : n ≤ m) (k : Nat.ble m 1000 = true) : n ≤ lineOf := le_line1 (Nat.le_trans h (Nat.le_of_ble_eq_true k))
theorem lt_cast {k F : Nat} (h : k < F) : decide ((k : Int) < (F : Int)) = true := decide_eq_true (Int.ofNat_lt.mpr h)
theorem nlt_cast {k F : Nat} (h : ¬ k < F) : decide ((k : Int) < (F : Int)) = false := decide_eq_false fun q => h (Int.ofNat_lt.mp q)
theorem min_l {k F : Nat} (h : k < F) : min k F = k := Nat.min_eq_left (Nat.le_of_lt h)
theorem min_l1 {k F : Nat} (h : k < F) : min (k + 1) F = k + 1 := Nat.min_eq_left h
theorem min_r {k F : Nat} (h : ¬ k < F) : min k F = F := Nat.min_eq_right (Nat.le_of_not_lt h)
theorem min_r1 {k F : Nat} (h : ¬ k < F) : min (k + 1) F = F := Nat.min_eq_right (Nat.le_succ_of_le (Nat.le_of_not_lt h))
theorem max_r {k F : Nat} (h : k < F) : max k F = F := Nat.max_eq_right (Nat.le_of_lt h)
theorem max_r1 {k F : Nat} (h : k < F) : max (k + 1) F = F := Nat.max_eq_right h
theorem max_l {k F : Nat} (h : ¬ k < F) : max k F = k := Nat.max_eq_left (Nat.le_of_not_lt h)
theorem max_l1 {k F : Nat} (h : ¬ k < F) : max (k + 1) F = k + 1 := Nat.max_eq_left (Nat.le_succ_of_le (Nat.le_of_not_lt h))
theorem beq_cast {k F : Nat} (h : k = F) : ((k : Int) == (F : Int)) = true := by rw [h]; exact beq_self_eq_true _
theorem nbeq_cast {k F : Nat} (h : ¬ k = F) : ((k : Int) == (F : Int)) = false := beq_eq_false_iff_ne.mpr fun q => h (Int.ofNat_inj.mp q)
/-- no object names a label out of the list -/
noncomputable def Cl (σ : St) : Prop := σ.all (okAO σ.length) = true
theorem cut_self {σ : St} (h : Cl σ) : cutSt σ.length σ = some σ := by
  unfold cutSt; rw [List.take_length]; exact if_pos h
theorem cut_app {σ τ : St} {n : Nat} (hn : σ.length = n) (h : Cl σ) : cutSt n (σ ++ τ) = some σ := by
  subst hn; unfold cutSt; rw [List.take_left]; exact if_pos h
theorem Cl.set {σ : St} {o : AO} {i : Nat} (h : Cl σ) (k : okAO σ.length o = true) : Cl (σ.set i o) := by
  unfold Cl at h ⊢
  rw [List.length_set]
  refine List.all_eq_true.mpr fun x hx => ?_
  rcases List.mem_or_eq_of_mem_set hx with hx | rfl
  · exact List.all_eq_true.mp h x hx
  · exact k

section
variable {O : Orc} {N pr : List Int} {η η' η1 η2 : En} {σ σ1 σ2 σ3 : St} {v w x y z : AV} {a b e c : E}
theorem bind_at {α β : Type} {o : Option α} {f : α → Option β} {x : α} {r : Option β} (h : o = some x) (k : f x = r) : o.bind f = r := by rw [h]; exact k
theorem map_at {α β : Type} {o : Option α} {f : α → β} {x : α} (h : o = some x) : o.map f = some (f x) := by rw [h]; rfl
theorem ev_int {i} : ev O N pr (.int i) η σ = some (.int i, σ) := rfl
theorem ev_bool {i} : ev O N pr (.bool i) η σ = some (.bool i, σ) := rfl
theorem ev_glob {k} : ev O N pr (.glob k) η σ = some (.int k, σ) := rfl
theorem ev_prices : ev O N pr .prices η σ = some (.prices, σ) := rfl
theorem ev_barr0 : ev O N pr .barr0 η σ = some (.lab σ.length, σ ++ [.barr []]) := rfl
theorem ev_var {i} (h : η i = some v) : ev O N pr (.var i) η σ = some (v, σ) := map_at h
theorem ev_bin {o} {r : AV × St} (h1 : ev O N pr a η σ = some (x, σ1)) (h2 : ev O N pr b η σ1 = some (y, σ2)) (h : binv o x y σ2 = some r) : ev O N pr (.bin o a b) η σ = some r := bind_at h1 (bind_at h2 h)
theorem ev_neg {i} (h1 : ev O N pr a η σ = some (.int i, σ1)) : ev O N pr (.neg a) η σ = some (.int (-i), σ1) := bind_at h1 rfl
theorem ev_not {i} (h1 : ev O N pr a η σ = some (.bool i, σ1)) : ev O N pr (.not a) η σ = some (.bool (!i), σ1) := bind_at h1 rfl
theorem ev_chain {c} {r : AV × St} (h1 : ev O N pr a η σ = some (x, σ1)) (h : evc O N pr c x η σ1 = some r) : ev O N pr (.chain a c) η σ = some r := bind_at h1 h
theorem evc_one {o β} (h1 : ev O N pr e η σ = some (y, σ1)) (h : cmpv o x y σ1 = some β) : evc O N pr (.one o e) x η σ = some (.bool β, σ1) := bind_at h1 (map_at h)
theorem evc_more {o β r} {res : AV × St} (h1 : ev O N pr e η σ = some (y, σ1)) (h : cmpv o x y σ1 = some β) (hb : β = true) (h2 : evc O N pr r y η σ1 = some res) : evc O N pr (.more o e r) x η σ = some res := by subst hb; exact bind_at h1 (bind_at h h2)
theorem ev_isNone_n (h1 : ev O N pr a η σ = some (.none, σ1)) : ev O N pr (.isNone a) η σ = some (.bool true, σ1) := bind_at h1 rfl
theorem ev_isin {i k es l ys} (h1 : ev O N pr a η σ = some (.int i, σ1)) (h2 : evs O N pr es η σ1 = some (ys, σ2)) (h3 : intsOf ys = some l) (h4 : ys.length ≤ 100) :
    ev O N pr (.isin k a es) η σ = some (.bool (k != l.contains i), σ2) :=
  bind_at h1 (bind_at h2 (by show (match AV.int i, intsOf ys with | .int i, some l => if ys.length ≤ 100 then some (AV.bool (k != l.contains i), σ2) else none | _, _ => none) = _; rw [h3]; exact if_pos h4))
theorem ev_inl {i n l} (h1 : ev O N pr a η σ = some (.int i, σ1)) (h2 : ev O N pr b η σ1 = some (.lab n, σ2)) (h3 : σ2[n]? = some (.list l)) : ev O N pr (.inl a b) η σ = some (.bool (l.contains i), σ2) := bind_at h1 (bind_at h2 (by show (match σ2[n]? with | some (.list l) => some (AV.bool (l.contains i), σ2) | _ => none) = _; rw [h3]))
theorem evb_nil {k} : evb O N pr k .nil η σ = some (.bool k, σ) := rfl
theorem evb_go {k β r} {res : AV × St} (h1 : ev O N pr e η σ = some (.bool β, σ1)) (hb : β = k) (h2 : evb O N pr k r η σ1 = some res) : evb O N pr k (.cons e r) η σ = some res := by subst hb; exact bind_at h1 ((if_pos rfl).trans h2)
theorem evb_stop {k β r} (h1 : ev O N pr e η σ = some (.bool β, σ1)) (hb : β ≠ k) : evb O N pr k (.cons e r) η σ = some (.bool β, σ1) := bind_at h1 (if_neg hb)
theorem ev_and {es} {r : AV × St} (h : evb O N pr true es η σ = some r) : ev O N pr (.and es) η σ = some r := h
theorem ev_or {es} {r : AV × St} (h : evb O N pr false es η σ = some r) : ev O N pr (.or es) η σ = some r := h
theorem ev_ite_t {β} {r : AV × St} (h1 : ev O N pr c η σ = some (.bool β, σ1)) (hb : β = true) (h2 : ev O N pr a η σ1 = some r) : ev O N pr (.ite c a b) η σ = some r := by subst hb; exact bind_at h1 h2
theorem ev_ite_f {β} {r : AV × St} (h1 : ev O N pr c η σ = some (.bool β, σ1)) (hb : β = false) (h2 : ev O N pr b η σ1 = some r) : ev O N pr (.ite c a b) η σ = some r := by subst hb; exact bind_at h1 h2
theorem ev_call {f args vs} {r : AV × St} (h1 : evs O N pr args η σ = some (vs, σ1)) (h2 : O f vs σ1 = some r) : ev O N pr (.call f args) η σ = some r := bind_at h1 h2
theorem ev_meth {m args vs C f} {r : AV × St} (h1 : ev O N pr a η σ = some (x, σ1)) (h2 : clsOf σ1 x = some C) (h3 : methFn C m = some f) (h4 : evs O N pr args η σ1 = some (vs, σ2)) (h5 : O f (x :: vs) σ2 = some r) :
    ev O N pr (.meth a m args) η σ = some r :=
  bind_at h1 (by
    show (match (clsOf σ1 x).bind (methFn · m) with | some f => (evs O N pr args η σ1).bind fun y => O f (x :: y.1) y.2 | none => none) = _
    rw [bind_at h2 h3]; exact bind_at h4 h5)
theorem ev_attr {k} (h1 : ev O N pr a η σ = some (x, σ1)) (h2 : attrOf σ1 x k = some v) : ev O N pr (.attr a k) η σ = some (v, σ1) := bind_at h1 (map_at h2)
theorem ev_sub {r : AV × St} (h1 : ev O N pr a η σ = some (x, σ1)) (h2 : ev O N pr b η σ1 = some (y, σ2)) (h : subv pr x y σ2 = some r) : ev O N pr (.sub a b) η σ = some r := bind_at h1 (bind_at h2 h)
theorem ev_upto {i} {r : AV × St} (h1 : ev O N pr a η σ = some (x, σ1)) (h2 : ev O N pr b η σ1 = some (.int i, σ2)) (h3 : 0 ≤ i) (h : cutv N x σ2 (·.take i.toNat) = some r) : ev O N pr (.upto a b) η σ = some r := bind_at h1 (bind_at h2 ((if_pos h3).trans h))
theorem ev_from {i} {r : AV × St} (h1 : ev O N pr a η σ = some (x, σ1)) (h2 : ev O N pr b η σ1 = some (.int i, σ2)) (h3 : 0 ≤ i) (h : cutv N x σ2 (·.drop i.toNat) = some r) : ev O N pr (.from a b) η σ = some r := bind_at h1 (bind_at h2 ((if_pos h3).trans h))
theorem ev_rev {r : AV × St} (h1 : ev O N pr a η σ = some (x, σ1)) (h : cutv N x σ1 List.reverse = some r) : ev O N pr (.rev a) η σ = some r := bind_at h1 h
theorem ev_every {k} {r : AV × St} (h1 : ev O N pr a η σ = some (x, σ1)) (h : cutv N x σ1 (everyL k) = some r) : ev O N pr (.every a k) η σ = some r := bind_at h1 h
theorem ev_list {es vs l} {r : AV × St} (h1 : evs O N pr es η σ = some (vs, σ1)) (h2 : intsOf vs = some l) (h : newL σ1 l = some r) : ev O N pr (.list es) η σ = some r := bind_at h1 (bind_at h2 h)
theorem ev_comp {j cap it l on τ} (h1 : evi O N pr it η σ = some (l, on, σ1)) (h2 : compGo (fun v τ => ev O N pr e (upd (fun i => if cap.contains i then η i else none) j v) τ) σ1.length (fun τ => isL τ on l) l (σ1 ++ [.list []]) = some τ) :
    ev O N pr (.comp e j cap it) η σ = some (.lab σ1.length, τ) := bind_at h1 (map_at h2)
theorem ev_b1 {f} {r : AV × St} (h1 : ev O N pr a η σ = some (x, σ1)) (h : b1v N f x σ1 = some r) : ev O N pr (.b1 f a) η σ = some r := bind_at h1 h
theorem ev_max2 {i j} (h1 : ev O N pr a η σ = some (.int i, σ1)) (h2 : ev O N pr b η σ1 = some (.int j, σ2)) : ev O N pr (.max2 a b) η σ = some (.int (if j > i then j else i), σ2) := bind_at h1 (bind_at h2 rfl)
theorem evs_nil : evs O N pr .nil η σ = some ([], σ) := rfl
theorem evs_cons {r vs} (h1 : ev O N pr e η σ = some (x, σ1)) (h2 : evs O N pr r η σ1 = some (vs, σ2)) : evs O N pr (.cons e r) η σ = some (x :: vs, σ2) := bind_at h1 (map_at h2)
theorem evi_range {n} (h1 : ev O N pr e η σ = some (.int n, σ1)) (h2 : n.natAbs < 1000000) : evi O N pr (.range e) η σ = some ((List.range n.toNat).map fun (k : Nat) => (k : Int), none, σ1) := bind_at h1 (if_pos h2)
theorem evi_range3 {i j k l} (h1 : ev O N pr a η σ = some (.int i, σ1)) (h2 : ev O N pr b η σ1 = some (.int j, σ2)) (h3 : ev O N pr c η σ2 = some (.int k, σ3)) (h : rangeL i j k = some l) : evi O N pr (.range3 a b c) η σ = some (l, none, σ3) := bind_at h1 (bind_at h2 (bind_at h3 (map_at h)))
theorem evi_elems {n l} (h1 : ev O N pr e η σ = some (.lab n, σ1)) (h2 : σ1[n]? = some (.list l)) : evi O N pr (.elems e) η σ = some (l, some n, σ1) := bind_at h1 (by show (match σ1[n]? with | some (.list l) => some (l, some n, σ1) | _ => none) = _; rw [h2])
/-! operations -/
theorem bin_int {o i j k} (h : intBin o i j = some k) : binv o (.int i) (.int j) σ = some (.int k, σ) := by show (intBin o i j).map _ = _; rw [h]; rfl
theorem fd {a b : Int} (h : 0 ≤ b) : a.fdiv b = a / b := Int.fdiv_eq_ediv_of_nonneg a h
theorem ib_fdiv {i j} (h : 0 < j ∧ j.natAbs < 1048576) : intBin .fdiv i j = some (i / j) := (if_pos ⟨by (first | omega | lia), h.2⟩).trans (by rw [fd (by (first | omega | lia))])
theorem ib_mod {i j} (h : 0 < j) : intBin .mod i j = some (i % j) := (if_neg (by (first | lia | omega))).trans (by rw [Int.fmod_eq_emod_of_nonneg _ (by (first | lia | omega))])
theorem ib_mul {i j} (h : i.natAbs < 2 ^ 64 ∨ j.natAbs < 2 ^ 64) : intBin .mul i j = some (i * j) := if_pos h
theorem ib_shr {i j} (h : 0 ≤ j) : intBin .shr i j = some (i / 2 ^ j.toNat) := (if_pos h).trans (by rw [fd (Int.le_of_lt (Int.pow_pos (by decide)))])
theorem ib_shl8 {i} (h : i.natAbs < 2 ^ 64) : intBin .shl i 8 = some (i * 256) := if_pos ⟨by decide, by decide, h⟩
theorem ib_shr4 {i} : intBin .shr i 4 = some (i / 16) := congrArg some (fd (a := i) (b := 16) (by decide))
theorem ib_shr5 {i} : intBin .shr i 5 = some (i / 32) := congrArg some (fd (a := i) (b := 32) (by decide))
theorem ib_shr11 {i} : intBin .shr i 11 = some (i / 2048) := congrArg some (fd (a := i) (b := 2048) (by decide))
theorem ib_shr24 {i} : intBin .shr i 24 = some (i / 16777216) := congrArg some (fd (a := i) (b := 16777216) (by decide))
theorem ib_shr32 {i} : intBin .shr i 32 = some (i / 4294967296) := congrArg some (fd (a := i) (b := 4294967296) (by decide))
theorem ib_pow18 : intBin .pow 10 18 = some 1000000000000000000 := rfl
theorem cmp_int {o i j} : cmpv o (.int i) (.int j) σ = some (intCmp o i j) := rfl
theorem new_list {l : List Int} (h : l.length ≤ lineOf) : newL σ l = some (.lab σ.length, σ ++ [.list l]) := if_pos h
theorem cut_lab {n l} {f : List Int → List Int} {r : AV × St} (h1 : σ[n]? = some (.list l)) (h2 : l.length ≤ lineOf) (h3 : newL σ (f l) = some r) : cutv N (.lab n) σ f = some r := by
  unfold cutv listOf; simp only [h1, Option.bind_some, if_pos h2]; exact h3
theorem cut_script {f : List Int → List Int} {r : AV × St} (h2 : N.length ≤ lineOf) (h3 : newL σ (f N) = some r) : cutv N .script σ f = some r := by
  unfold cutv listOf; simp only [Option.bind_some, if_pos h2]; exact h3
theorem b1_len {n l} (h1 : σ[n]? = some (.list l)) (h2 : l.length ≤ lineOf) : b1v N .len (.lab n) σ = some (.int l.length, σ) := by unfold b1v; simp only [h1, if_pos h2]
theorem b1_lens (h2 : N.length ≤ lineOf) : b1v N .len .script σ = some (.int N.length, σ) := if_pos h2
theorem b1_lenb {l} (h2 : l.length ≤ lineOf) : b1v N .len (.bytes l) σ = some (.int l.length, σ) := if_pos h2
theorem b1_abs {i} : b1v N .abs (.int i) σ = some (.int i.natAbs, σ) := rfl
theorem b1_sorted {n l} {r : AV × St} (h1 : σ[n]? = some (.list l)) (h2 : l.length < 64) (h3 : newL σ (l.mergeSort fun a b => decide (a ≤ b)) = some r) : b1v N .sorted (.lab n) σ = some r := by
  unfold b1v; simp only [h1, if_pos h2]; exact h3
theorem b1_sum {n l} (h1 : σ[n]? = some (.list l)) : b1v N .sum (.lab n) σ = some (.int l.sum, σ) := by unfold b1v; simp only [h1]
theorem b1_int {i} : b1v N .int (.bool i) σ = some (.int (if i then 1 else 0), σ) := rfl
theorem b1_max {n i l} (h1 : σ[n]? = some (.list (i :: l))) : b1v N .max (.lab n) σ = some (.int (l.foldl max i), σ) := by unfold b1v; simp only [h1]
theorem b1_bitlen {i} : b1v N .bitlen (.int i) σ = some (.int (bitLen i), σ) := rfl
theorem b1_isint {i} : b1v N .isint (.int i) σ = some (.bool true, σ) := rfl
theorem b1_bytesl {n l} (h1 : σ[n]? = some (.list l)) (h2 : isOctets l = true ∧ l.length ≤ lineOf) : b1v N .bytes (.lab n) σ = some (.bytes l, σ) := by unfold b1v; simp only [h1]; exact if_pos h2
theorem b1_bytesr {n l} (h1 : σ[n]? = some (.barr l)) (h2 : l.length ≤ lineOf) : b1v N .bytes (.lab n) σ = some (.bytes l, σ) := by unfold b1v; simp only [h1]; exact if_pos h2
theorem b1_bytesb {l} : b1v N .bytes (.bytes l) σ = some (.bytes l, σ) := rfl
theorem sub_lab {n i l j} (h1 : σ[n]? = some (.list l)) (h2 : itemAt l i = some j) : subv pr (.lab n) (.int i) σ = some (.int j, σ) := by unfold subv; simp only [h1, h2]; rfl
theorem sub_bytes {i l j} (h1 : 0 ≤ i ∧ l.length ≤ lineOf) (h2 : l[i.toNat]? = some j) : subv pr (.bytes l) (.int i) σ = some (.int j, σ) := by unfold subv; simp only [if_pos h1, h2]; rfl
theorem sub_prices {i j} (h1 : 0 ≤ i) (h2 : pr[i.toNat]? = some j) : subv pr .prices (.int i) σ = some (.int j, σ) := by unfold subv; simp only [if_pos h1, h2]; rfl
theorem item_pos {l : List Int} {i j : Int} (h0 : l.length ≤ lineOf) (h1 : 0 ≤ i) (h2 : l[i.toNat]? = some j) : itemAt l i = some j := by
  unfold itemAt; rw [if_neg (by (first | lia | omega)), if_pos h1]; exact h2
/-! statements -/
variable {res : Fl × En × St}
theorem ex_asg {i} (h : ev O N pr e η σ = some (v, σ1)) : ex O N pr (.asg i e) η σ = some (.next, upd η i v, σ1) := map_at h
theorem ex_asgComp {i} (h : ev O N pr e η σ = some (v, σ1)) : ex O N pr (.asgComp i e) η σ = some (.next, upd η i v, σ1) := map_at h
theorem ex_asgs {is es vs} (h : evs O N pr es η σ = some (vs, σ1)) : ex O N pr (.asgs is es) η σ = some (.next, upds η is vs, σ1) := map_at h
theorem ex_asgIf_t {is es fs vs β} (h : ev O N pr c η σ = some (.bool β, σ1)) (hb : β = true) (h2 : evs O N pr es η σ1 = some (vs, σ2)) : ex O N pr (.asgIf is c es fs) η σ = some (.next, upds η is vs, σ2) := by subst hb; exact bind_at h (map_at h2)
theorem ex_asgIf_f {is es fs vs β} (h : ev O N pr c η σ = some (.bool β, σ1)) (hb : β = false) (h2 : evs O N pr fs η σ1 = some (vs, σ2)) : ex O N pr (.asgIf is c es fs) η σ = some (.next, upds η is vs, σ2) := by subst hb; exact bind_at h (map_at h2)
theorem ex_setItem {i j} (h1 : ev O N pr c η σ = some (.int j, σ1)) (h2 : ev O N pr a η σ1 = some (x, σ2)) (h3 : ev O N pr b η σ2 = some (.int i, σ3)) {τ} (h : putItem σ3 x i j = some τ) : ex O N pr (.setItem a b c) η σ = some (.next, η, τ) := bind_at h1 (bind_at h2 (bind_at h3 (map_at h)))
theorem ex_setAttr {k τ} (h1 : ev O N pr e η σ = some (v, σ1)) (h2 : ev O N pr a η σ1 = some (x, σ2)) (h : putAttr σ2 x k v = some τ) : ex O N pr (.setAttr a k e) η σ = some (.next, η, τ) := bind_at h1 (bind_at h2 (map_at h))
theorem ex_aug {i o j k l} (h0 : η i = some (.int j)) (h1 : ev O N pr e η σ = some (.int k, σ1)) (h : intBin o j k = some l) : ex O N pr (.aug i o e) η σ = some (.next, upd η i (.int l), σ1) := bind_at h0 (bind_at h1 (map_at h))
theorem ex_augAttr {n o i j k τ} (h1 : ev O N pr a η σ = some (x, σ1)) (h0 : attrOf σ1 x n = some (.int i)) (h2 : ev O N pr e η σ1 = some (.int j, σ2)) (h : intBin o i j = some k) (h3 : putAttr σ2 x n (.int k) = some τ) :
    ex O N pr (.augAttr a n o e) η σ = some (.next, η, τ) := bind_at h1 (bind_at h0 (bind_at h2 (bind_at h (map_at h3))))
theorem ex_for {i it body l on} (h : evi O N pr it η σ = some (l, on, σ1)) (h2 : loopGo (fun η τ => exs O N pr body η τ) (fun v _ η => upd η i (.int v)) (fun τ => isL τ on l) l 0 η σ1 = some res) : ex O N pr (.for_ i it body) η σ = some res := bind_at h h2
theorem ex_forEnum {i j body n l} (h : ev O N pr e η σ = some (.lab n, σ1)) (h1 : σ1[n]? = some (.list l))
    (h2 : loopGo (fun η τ => exs O N pr body η τ) (fun v k η => upd (upd η i (.int k)) j (.int v)) (fun τ => isL τ (some n) l) l 0 η σ1 = some res) : ex O N pr (.forEnum i j e body) η σ = some res := by
  refine bind_at h ?_
  show (match σ1[n]? with | some (.list l) => loopGo (fun η τ => exs O N pr body η τ) (fun v k η => upd (upd η i (.int k)) j (.int v)) (fun τ => isL τ (some n) l) l 0 η σ1 | _ => none) = _
  rw [h1]; exact h2
theorem ex_ret (h : ev O N pr e η σ = some (v, σ1)) : ex O N pr (.ret e) η σ = some (.ret v, η, σ1) := map_at h
theorem ex_append {τ} (h1 : ev O N pr a η σ = some (x, σ1)) (h2 : ev O N pr b η σ1 = some (y, σ2)) (hk : kindL σ1 x = kindL σ2 x) (h : appendv σ2 x y = some τ) : ex O N pr (.append a b) η σ = some (.next, η, τ) := bind_at h1 (bind_at h2 ((if_pos hk).trans (map_at h)))
theorem ex_extend {τ} (h1 : ev O N pr a η σ = some (x, σ1)) (h2 : ev O N pr b η σ1 = some (y, σ2)) (hk : kindL σ1 x = kindL σ2 x) (h : extendv σ2 x y = some τ) : ex O N pr (.extend a b) η σ = some (.next, η, τ) := bind_at h1 (bind_at h2 ((if_pos hk).trans (map_at h)))
theorem ex_exp (h : ev O N pr e η σ = some (.none, σ1)) : ex O N pr (.exp e) η σ = some (.next, η, σ1) := bind_at h rfl
theorem exs_next {s r} (h1 : ex O N pr s η σ = some (.next, η1, σ1)) (h2 : exs O N pr r η1 σ1 = some res) : exs O N pr (.cons s r) η σ = some res := bind_at h1 h2
theorem exs_ret {s r} (h1 : ex O N pr s η σ = some (.ret v, η1, σ1)) : exs O N pr (.cons s r) η σ = some (.ret v, η1, σ1) := bind_at h1 rfl
/-! loops -/
theorem loop_inv {b : En → St → Option (Fl × En × St)} {set : Int → Nat → En → En} {ok : St → Bool} (I : Nat → En → St → Prop) (hok : ∀ k η σ, I k η σ → ok σ = true) :
    ∀ (l : List Int) (k : Nat) (η : En) (σ : St), I k η σ → (∀ j x η σ, l[j]? = some x → I (k + j) η σ → ∃ η' σ', b (set x (k + j) η) σ = some (.next, η', σ') ∧ I (k + j + 1) η' σ') →
      ∃ η' σ', loopGo b set ok l k η σ = some (.next, η', σ') ∧ I (k + l.length) η' σ'
  | [], k, η, σ, h, step => ⟨η, σ, by unfold loopGo; exact if_pos (hok _ _ _ h), h⟩
  | x :: r, k, η, σ, h, step => by
    refine Classical.byContradiction fun hG0 => ?_
    obtain ⟨η1, σ1, e1, h1⟩ := step 0 x η σ rfl h
    obtain ⟨η2, σ2, e2, h2⟩ := loop_inv I hok r (k + 1) η1 σ1 h1 fun j y η σ hj hI => by
      have := step (j + 1) y η σ (by rw [List.getElem?_cons_succ]; exact hj) (by rw [show k + (j + 1) = k + 1 + j by (first | lia | omega)]; exact hI)
      rw [show k + (j + 1) = k + 1 + j by (first | lia | omega)] at this
      exact this
    refine hG0 ?_
    refine ⟨η2, σ2, ?_, by rw [List.length_cons, show k + (r.length + 1) = k + 1 + r.length by (first | lia | omega)]; exact h2⟩
    unfold loopGo
    rw [if_pos (hok _ _ _ h)]
    have e1 : b (set x k η) σ = some (.next, η1, σ1) := e1
    rw [e1]; exact e2
theorem loop0 {b : En → St → Option (Fl × En × St)} {set : Int → Nat → En → En} {ok : St → Bool} {l : List Int} {η : En} {σ : St} (I : Nat → En → St → Prop) (h0 : I 0 η σ) (hok : ∀ k η σ, I k η σ → ok σ = true)
    (step : ∀ k x η σ, l[k]? = some x → I k η σ → ∃ η' σ', b (set x k η) σ = some (.next, η', σ') ∧ I (k + 1) η' σ') : ∃ η' σ', loopGo b set ok l 0 η σ = some (.next, η', σ') ∧ I l.length η' σ' := by
  have := loop_inv (set := set) (b := b) I hok l 0 η σ h0 fun j x η σ hj hI => by
    rw [Nat.zero_add] at hI ⊢; exact step j x η σ hj hI
  rwa [Nat.zero_add] at this
theorem comp_inv {elt : AV → St → Option (AV × St)} {n : Nat} {ok : St → Bool} (I : Nat → List Int → St → Prop) (hok : ∀ k acc σ, I k acc σ → ok σ = true) (hacc : ∀ k acc σ, I k acc σ → σ[n]? = some (.list acc) ∧ acc.length ≤ lineOf) :
    ∀ (l : List Int) (k : Nat) (acc : List Int) (σ : St), I k acc σ →
      (∀ j x acc σ, l[j]? = some x → I (k + j) acc σ → ∃ v σ' acc', elt (.int x) σ = some (.int v, σ') ∧ σ'[n]? = some (.list acc') ∧ acc'.length ≤ lineOf ∧ I (k + j + 1) (acc' ++ [v]) (σ'.set n (.list (acc' ++ [v])))) →
      ∃ acc' σ', compGo elt n ok l σ = some σ' ∧ I (k + l.length) acc' σ'
  | [], k, acc, σ, h, step => ⟨acc, σ, by unfold compGo; exact if_pos (hok _ _ _ h), h⟩
  | x :: r, k, acc, σ, h, step => by
    refine Classical.byContradiction fun hG0 => ?_
    obtain ⟨v, σ1, acc1, e1, e2, e3, h1⟩ := step 0 x acc σ rfl h
    obtain ⟨acc2, σ2, e4, h2⟩ := comp_inv I hok hacc r (k + 1) _ _ h1 fun j y acc σ hj hI => by
      have := step (j + 1) y acc σ (by rw [List.getElem?_cons_succ]; exact hj) (by rw [show k + (j + 1) = k + 1 + j by (first | lia | omega)]; exact hI)
      rw [show k + (j + 1) = k + 1 + j by (first | lia | omega)] at this
      exact this
    refine hG0 ?_
    refine ⟨acc2, σ2, ?_, by rw [List.length_cons, show k + (r.length + 1) = k + 1 + r.length by (first | lia | omega)]; exact h2⟩
    unfold compGo
    rw [if_pos (hok _ _ _ h), e1]
    dsimp only
    rw [e2]
    dsimp only
    rw [if_pos e3]
    exact e4
theorem comp0 {elt : AV → St → Option (AV × St)} {n : Nat} {ok : St → Bool} {l : List Int} {σ : St} (I : Nat → List Int → St → Prop) (h0 : I 0 [] σ) (hok : ∀ k acc σ, I k acc σ → ok σ = true) (hacc : ∀ k acc σ, I k acc σ → σ[n]? = some (.list acc) ∧ acc.length ≤ lineOf)
    (step : ∀ k x acc σ, l[k]? = some x → I k acc σ → ∃ v σ' acc', elt (.int x) σ = some (.int v, σ') ∧ σ'[n]? = some (.list acc') ∧ acc'.length ≤ lineOf ∧ I (k + 1) (acc' ++ [v]) (σ'.set n (.list (acc' ++ [v])))) :
    ∃ acc' σ', compGo elt n ok l σ = some σ' ∧ I l.length acc' σ' := by
  have := comp_inv I hok hacc l 0 [] σ h0 fun j x acc σ hj hI => by
    rw [Nat.zero_add] at hI ⊢; exact step j x acc σ hj hI
  rwa [Nat.zero_add] at this
/-- an element that leaves all as it was -/
theorem comp_pure {elt : AV → St → Option (AV × St)} {ok : St → Bool} {l : List Int} {σ : St} (f : Int → Int) (hl : l.length ≤ lineOf) (hok : ∀ acc, ok (σ ++ [.list acc]) = true)
    (h : ∀ x ∈ l, ∀ acc, elt (.int x) (σ ++ [.list acc]) = some (.int (f x), σ ++ [.list acc])) : compGo elt σ.length ok l (σ ++ [.list []]) = some (σ ++ [.list (l.map f)]) := by
  have at' : ∀ acc, (σ ++ [AO.list acc])[σ.length]? = some (.list acc) := fun acc => by rw [List.getElem?_append_right (Nat.le_refl _), Nat.sub_self]; rfl
  have key : ∀ (r : List Int) (acc : List Int), (∀ x ∈ r, x ∈ l) → acc.length + r.length ≤ lineOf → compGo elt σ.length ok r (σ ++ [.list acc]) = some (σ ++ [.list (acc ++ r.map f)]) := by
    intro r
    induction r with
    | nil => intro acc _ _; unfold compGo; rw [if_pos (hok acc), List.map_nil, List.append_nil]
    | cons x r ih =>
      intro acc hm hlen
      rw [List.length_cons] at hlen
      unfold compGo
      rw [if_pos (hok acc), h x (hm x List.mem_cons_self)]
      dsimp only
      rw [at']
      dsimp only
      rw [if_pos (by (first | omega | lia)), List.set_append_right _ _ (Nat.le_refl _), Nat.sub_self]
      show compGo elt σ.length ok r (σ ++ [.list (acc ++ [f x])]) = _
      rw [ih _ (fun y hy => hm y (List.mem_cons_of_mem _ hy)) (by rw [List.length_append]; simp; (first | omega | lia)), List.map_cons, List.append_assoc]; rfl
  exact key l [] (fun _ h => h) (by simpa using hl)
/-! calls -/
theorem run_ret {F : Fn} {args : List AV} {r : AV × St} (hn : args.length = F.np) (h : exs O N pr F.body (enter (args ++ F.dflt)) σ = some (.ret v, η1, σ1)) (hl : leaveF F.keep σ.length v σ1 = some r) : runFn O N pr F args σ = some r := by
  unfold runFn; rw [if_pos hn, h]; exact hl
theorem run_next {F : Fn} {args : List AV} {r : AV × St} (hn : args.length = F.np) (h : exs O N pr F.body (enter (args ++ F.dflt)) σ = some (.next, η1, σ1)) (hl : leaveF F.keep σ.length .none σ1 = some r) : runFn O N pr F args σ = some r := by
  unfold runFn; rw [if_pos hn, h]; exact hl
theorem leave_int {i : Int} {n : Nat} (h : cutSt n σ = some σ1) : leaveF false n (.int i) σ = some (.int i, σ1) := by unfold leaveF; simp [h]
theorem leave_bool {i : Bool} {n : Nat} (h : cutSt n σ = some σ1) : leaveF false n (.bool i) σ = some (.bool i, σ1) := by unfold leaveF; simp [h]
theorem leave_none {n : Nat} (h : cutSt n σ = some σ1) : leaveF false n .none σ = some (.none, σ1) := by unfold leaveF; simp [h]
theorem leave_bytes {l : List Int} {n : Nat} (h : cutSt n σ = some σ1) : leaveF false n (.bytes l) σ = some (.bytes l, σ1) := by unfold leaveF; simp [h]
theorem leave_lab {m n : Nat} {l : List Int} (hm : n ≤ m) (hl : σ[m]? = some (.list l)) (h : cutSt n σ = some σ1) : leaveF false n (.lab m) σ = some (.lab n, σ1 ++ [.list l]) := by unfold leaveF; simp [h, hm, hl]
theorem leave_keep {n : Nat} : leaveF true n .none σ = some (.none, σ) := rfl
theorem orc_fn {n f : Nat} {F : Fn} {args : List AV} {r : AV × St} (hi : initOf f = none) (hF : fnTab f = some F) (h : runFn (orc N pr n) N pr F args σ = some r) : orc N pr (n + 1) f args σ = some r := by
  unfold orc; rw [hi]; dsimp only; rw [hF]; exact h
theorem orc_new {n f g : Nat} {args : List AV} {τ : St} (hi : initOf f = some g) (h : orc N pr n g (.lab (σ.length + 1) :: args) (σ ++ [.dict [], .inst f σ.length]) = some (.none, τ)) : orc N pr (n + 1) f args σ = some (.lab (σ.length + 1), τ) := by
  rw [orc, hi]; dsimp only; rw [h]
/-! a block, to what is asked behind it -/
noncomputable def Wg (O : Orc) (N pr : List Int) (t : Ss) (η : En) (σ : St) (Q : Fl → En → St → Prop) : Prop := ∃ fl η1 τ, exs O N pr t η σ = some (fl, η1, τ) ∧ Q fl η1 τ
noncomputable def flv : Fl → AV
  | .ret v => v
  | .next => .none
noncomputable def appS : Ss → Ss → Ss
  | .nil, r => r
  | .cons s a, r => .cons s (appS a r)
theorem exs_app : ∀ (t r : Ss) (η : En) (σ : St), exs O N pr (appS t r) η σ = (exs O N pr t η σ).bind fun x => match x.1 with | .next => exs O N pr r x.2.1 x.2.2 | .ret v => some (.ret v, x.2)
  | .nil, r, η, σ => rfl
  | .cons s t, r, η, σ => by
    show (ex O N pr s η σ).bind _ = ((ex O N pr s η σ).bind _).bind _
    cases h : ex O N pr s η σ with
    | none => rfl
    | some x =>
      obtain ⟨fl, η1, σ1⟩ := x
      cases fl with
      | ret v => rfl
      | next => exact exs_app t r η1 σ1
section
variable {Q : Fl → En → St → Prop} {s : S} {p q r : Ss}
theorem wg_next (h1 : ex O N pr s η σ = some (.next, η1, σ1)) (h2 : Wg O N pr r η1 σ1 Q) : Wg O N pr (.cons s r) η σ Q := let ⟨fl, η2, τ, e, k⟩ := h2; ⟨fl, η2, τ, exs_next h1 e, k⟩
theorem wg_nil (k : Q .next η σ) : Wg O N pr .nil η σ Q := ⟨_, _, _, rfl, k⟩
theorem wg_ret (h : ev O N pr e η σ = some (v, σ1)) (k : Q (.ret v) η σ1) : Wg O N pr (.cons (.ret e) r) η σ Q := ⟨_, _, _, exs_ret (ex_ret h), k⟩
theorem wg_iff {β} (h : ev O N pr c η σ = some (.bool β, σ1)) (ht : β = true → Wg O N pr (appS p r) η σ1 Q) (hf : β = false → Wg O N pr (appS q r) η σ1 Q) : Wg O N pr (.cons (.iff c p q) r) η σ Q := by
  cases β with
  | true =>
    obtain ⟨fl, η2, τ, e, k⟩ := ht rfl
    rw [exs_app] at e
    exact ⟨fl, η2, τ, (congrArg (fun o => Option.bind o _) (show ex O N pr (.iff c p q) η σ = _ from bind_at h rfl)).trans e, k⟩
  | false =>
    obtain ⟨fl, η2, τ, e, k⟩ := hf rfl
    rw [exs_app] at e
    exact ⟨fl, η2, τ, (congrArg (fun o => Option.bind o _) (show ex O N pr (.iff c p q) η σ = _ from bind_at h rfl)).trans e, k⟩
theorem wg_for {i it l on} (I : Nat → En → St → Prop) (h : evi O N pr it η σ = some (l, on, σ1)) (h0 : I 0 η σ1) (hok : ∀ k η σ, I k η σ → isL σ on l = true)
    (step : ∀ k x η σ, l[k]? = some x → I k η σ → Wg O N pr p (upd η i (.int x)) σ fun fl η' σ' => fl = .next ∧ I (k + 1) η' σ') (k : ∀ η' σ', I l.length η' σ' → Wg O N pr r η' σ' Q) : Wg O N pr (.cons (.for_ i it p) r) η σ Q := by
  refine Classical.byContradiction fun hG0 => ?_
  obtain ⟨η', σ', e, hI⟩ := loop0 (b := fun η τ => exs O N pr p η τ) (set := fun v _ η => upd η i (.int v)) (ok := fun τ => isL τ on l) I h0 hok fun k x η σ hk hI => by
    obtain ⟨fl, η1, τ, e, rfl, k2⟩ := step k x η σ hk hI
    exact ⟨η1, τ, e, k2⟩
  refine hG0 ?_
  exact wg_next (ex_for h e) (k η' σ' hI)
theorem wg_forEnum {i j l n} (I : Nat → En → St → Prop) (h : ev O N pr e η σ = some (.lab n, σ1)) (h1 : σ1[n]? = some (.list l)) (h0 : I 0 η σ1) (hok : ∀ k η σ, I k η σ → isL σ (some n) l = true)
    (step : ∀ (k : Nat) x η σ, l[k]? = some x → I k η σ → Wg O N pr p (upd (upd η i (.int k)) j (.int x)) σ fun fl η' σ' => fl = .next ∧ I (k + 1) η' σ') (k : ∀ η' σ', I l.length η' σ' → Wg O N pr r η' σ' Q) : Wg O N pr (.cons (.forEnum i j e p) r) η σ Q := by
  refine Classical.byContradiction fun hG0 => ?_
  obtain ⟨η', σ', e, hI⟩ := loop0 (b := fun η τ => exs O N pr p η τ) (set := fun v k η => upd (upd η i (.int k)) j (.int v)) (ok := fun τ => isL τ (some n) l) I h0 hok fun k x η σ hk hI => by
    obtain ⟨fl, η1, τ, e, rfl, k2⟩ := step k x η σ hk hI
    exact ⟨η1, τ, e, k2⟩
  refine hG0 ?_
  exact wg_next (ex_forEnum h h1 e) (k η' σ' hI)
end
theorem run_eq {F : Fn} {args : List AV} {r : AV × St} (hn : args.length = F.np) (h : Wg O N pr F.body (enter (args ++ F.dflt)) σ fun fl _ τ => leaveF F.keep σ.length (flv fl) τ = some r) : runFn O N pr F args σ = some r := by
  obtain ⟨fl, η1, τ, e, k⟩ := h
  cases fl with
  | next => exact run_next hn e k
  | ret v => exact run_ret hn e k
theorem fn_eq {n f : Nat} {F : Fn} {args : List AV} {r : AV × St} (hi : initOf f = none) (hF : fnTab f = some F) (hn : args.length = F.np)
    (h : Wg (orc N pr n) N pr F.body (enter (args ++ F.dflt)) σ fun fl _ τ => leaveF F.keep σ.length (flv fl) τ = some r) : orc N pr (n + 1) f args σ = some r := orc_fn hi hF (run_eq hn h)
theorem fn_ex {n f : Nat} {F : Fn} {args : List AV} {P : AV × St → Prop} (hi : initOf f = none) (hF : fnTab f = some F) (hn : args.length = F.np)
    (h : Wg (orc N pr n) N pr F.body (enter (args ++ F.dflt)) σ fun fl _ τ => ∃ r, leaveF F.keep σ.length (flv fl) τ = some r ∧ P r) : ∃ r, orc N pr (n + 1) f args σ = some r ∧ P r := by
  obtain ⟨fl, η1, τ, e, r, k, hp⟩ := h
  refine ⟨r, orc_fn hi hF ?_, hp⟩
  cases fl with
  | next => exact run_next hn e k
  | ret v => exact run_ret hn e k
end
end Tk.P

namespace Tk.P
open PySem
noncomputable def nextM (m b : Int) : Int := if b = 0 then m + (2048 - m) / 32 else m - m / 32
noncomputable def priceAt (c : Int) : Int := (prices[(c / 16).toNat]?).getD 0
noncomputable def priceF (m b : Int) : Int := priceAt (if b = 0 then m else 2048 - m)
noncomputable def pstep (p : Int × Int) : Int × Int := let over := if bitLen (p.1 * p.1) - 16 > 0 then bitLen (p.1 * p.1) - 16 else 0; ((p.1 * p.1) / 2 ^ over.toNat, 2 * p.2 + over)
noncomputable def pit (c : Int) : Nat → Int × Int
  | 0 => (c, 0)
  | k + 1 => pstep (pit c k)
noncomputable def priceOf (c : Int) : Int := 176 - (pit c 4).2 - (bitLen (pit c 4).1 - 1)
noncomputable def blN (n : Nat) : Nat := if n == 0 then 0 else n.log2 + 1
noncomputable def pstepN (p : Nat × Nat) : Nat × Nat := ((p.1 * p.1) / 2 ^ (blN (p.1 * p.1) - 16), 2 * p.2 + (blN (p.1 * p.1) - 16))
noncomputable def pitN (c : Nat) : Nat → Nat × Nat
  | 0 => (c, 0)
  | k + 1 => pstepN (pitN c k)
theorem bitLen_cast (n : Nat) : bitLen (n : Int) = (blN n : Int) := by
  unfold bitLen blN Builtin.Int.intBits
  cases n with
  | zero => rfl
  | succ n => rfl
theorem pstep_cast (p : Nat × Nat) : pstep ((p.1 : Int), (p.2 : Int)) = (((pstepN p).1 : Int), ((pstepN p).2 : Int)) := by
  unfold pstep pstepN
  dsimp only
  have e : ((p.1 : Int) * (p.1 : Int)) = ((p.1 * p.1 : Nat) : Int) := by push_cast; rfl
  rw [e, bitLen_cast]
  generalize blN (p.1 * p.1) = b
  generalize p.1 * p.1 = q
  have o : (if ((b : Int) - 16) > 0 then ((b : Int) - 16) else 0) = ((b - 16 : Nat) : Int) := by split <;> (first | omega | lia)
  rw [o, Int.toNat_natCast]
  refine Prod.ext ?_ ?_
  · show (q : Int) / 2 ^ (b - 16) = ((q / 2 ^ (b - 16) : Nat) : Int)
    push_cast; rfl
  · show 2 * (p.2 : Int) + ((b - 16 : Nat) : Int) = ((2 * p.2 + (b - 16) : Nat) : Int)
    push_cast; rfl
theorem pit_cast (c : Nat) : ∀ k, pit (c : Int) k = (((pitN c k).1 : Int), ((pitN c k).2 : Int))
  | 0 => rfl
  | k + 1 => by
    show pstep (pit (c : Int) k) = _
    rw [pit_cast c k, pstep_cast]; rfl
noncomputable def okN (c : Nat) : Bool :=
  let p0 := (c, 0)
  let p1 := pstepN p0
  let p2 := pstepN p1
  let p3 := pstepN p2
  let p4 := pstepN p3
  Nat.ble p1.1 4294967296 && Nat.ble p2.1 4294967296 && Nat.ble p3.1 4294967296 && Nat.ble (p4.2 + blN p4.1) 176 && Nat.ble 80 (p4.2 + blN p4.1)
theorem okN_all : (List.range 1987).all (fun c => okN (c + 31)) = true := by decide +kernel
theorem okN_at {c : Nat} (h : 31 ≤ c ∧ c ≤ 2017) : (∀ k, k < 4 → (pitN c k).1 < 2 ^ 64) ∧ (pitN c 4).2 + blN (pitN c 4).1 ≤ 176 ∧ 80 ≤ (pitN c 4).2 + blN (pitN c 4).1 := by
  refine Classical.byContradiction fun hG0 => ?_
  have := List.all_eq_true.mp okN_all (c - 31) (List.mem_range.mpr (by (first | omega | lia)))
  rw [show c - 31 + 31 = c by (first | omega | lia)] at this
  simp only [okN, Bool.and_eq_true, Nat.ble_eq] at this
  obtain ⟨⟨⟨⟨h1, h2⟩, h3⟩, h4⟩, h5⟩ := this
  refine hG0 ?_
  refine ⟨fun k hk => ?_, h4, h5⟩
  match k, hk with
  | 0, _ => show c < _; (first | omega | lia)
  | 1, _ => exact Nat.lt_of_le_of_lt h1 (by decide)
  | 2, _ => exact Nat.lt_of_le_of_lt h2 (by decide)
  | 3, _ => exact Nat.lt_of_le_of_lt h3 (by decide)
theorem prices_len : prices.length = 128 := by decide +kernel
noncomputable def tstep (p : Int × Int) (x : Int) : Int × Int := if 32 * x ≤ p.1 then (p.1 - x * ((p.1 - 32 * x) / x + 1), p.2 + ((p.1 - 32 * x) / x + 1)) else p
noncomputable def parts : List Int := (List.range 63).map fun (k : Nat) => (63 : Int) - k
noncomputable def turnsF (lack : Int) : Int := (parts.foldl tstep (lack, 0)).2
noncomputable def ledF (m : Int) (bs : List Int) : Int := bs.foldl nextM m
theorem foldl_take {α β : Type} {f : α → β → α} {a : α} {l : List β} {k : Nat} {x : β} (h : l[k]? = some x) : (l.take (k + 1)).foldl f a = f ((l.take k).foldl f a) x := by
  rw [List.take_add_one, h, List.foldl_append]; rfl
section
variable {N pr : List Int} {n : Nat} {σ : St}
/-! next_model, bit_price, need_model, need_bit -/
theorem sp_next {m b : Int} (h : Cl σ) : orc N pr (n + 1) 97 [.int m, .int b] σ = some (.int (nextM m b), σ) := by
  apply fn_eq rfl rfl rfl
  apply wg_iff
  · repeat' (first | with_reducible (first | exact ev_int | apply ev_chain | apply evc_one | exact cmp_int) | exact ev_var rfl)
  · intro hb
    apply wg_ret
    · repeat' (first | with_reducible (first | exact ev_glob | apply ev_bin | apply bin_int | exact ib_shr5) | exact ev_var rfl | exact @rfl (Option Int) _)
    · rw [nextM, if_pos (by simpa [intCmp] using hb)]; exact leave_int (cut_self h)
  · intro hb
    apply wg_ret
    · repeat' (first | with_reducible (first | exact ev_glob | apply ev_bin | apply bin_int | exact ib_shr5) | exact ev_var rfl | exact @rfl (Option Int) _)
    · rw [nextM, if_neg (by simpa [intCmp] using hb)]; exact leave_int (cut_self h)
theorem sp_need_bit {b : Int} (hb : b = 0 ∨ b = 1) (h : Cl σ) : orc N pr (n + 1) 111 [.int b] σ = some (.none, σ) := by
  apply fn_eq rfl rfl rfl
  apply wg_iff
  · repeat' (first | with_reducible (first | exact ev_int | exact evs_nil | apply ev_isin | apply evs_cons) | exact ev_var rfl | exact @rfl (Option (List Int)) _ | exact Nat.le_of_ble_eq_true rfl)
  · intro k; rcases hb with rfl | rfl <;> cases k
  · intro k; exact wg_nil (leave_none (cut_self h))
theorem sp_need_model {m : Int} (hm : 31 ≤ m ∧ m ≤ 2017) (h : Cl σ) : orc N pr (n + 1) 104 [.int m] σ = some (.none, σ) := by
  apply fn_eq rfl rfl rfl
  apply wg_iff (β := false)
  · apply ev_or
    apply evb_go
    · repeat' (first | with_reducible (first | apply ev_not | apply ev_b1 | exact b1_isint) | exact ev_var rfl)
    · rfl
    · apply evb_go
      · repeat' (first | with_reducible (first | exact ev_glob | apply ev_bin | apply ev_not | apply ev_chain | apply evc_one | apply evc_more | exact cmp_int | apply bin_int) | exact ev_var rfl | exact @rfl (Option Int) _)
        simp [intCmp, hm.1]
      · simp [intCmp]; (first | lia | omega)
      · exact evb_nil
  · intro k; cases k
  · intro k; exact wg_nil (leave_none (cut_self h))
theorem prices_at {c : Int} (h : 0 ≤ c ∧ c < 2048) : prices[(c / 16).toNat]? = some (priceAt c) := by
  unfold priceAt
  have hl : (c / 16).toNat < prices.length := by rw [prices_len]; (first | lia | omega)
  rw [List.getElem?_eq_getElem hl]; rfl
theorem sp_bit_price {m b : Int} (hm : 0 < m ∧ m < 2048) (h : Cl σ) : orc N prices (n + 1) 3521 [.int m, .int b] σ = some (.int (priceF m b), σ) := by
  apply fn_eq rfl rfl rfl
  apply wg_next
  · apply ex_asg
    show _ = some (AV.int (if b = 0 then m else 2048 - m), σ)
    by_cases hb : b = 0
    · apply ev_ite_t
      · repeat' (first | with_reducible (first | exact ev_int | apply ev_chain | apply evc_one | exact cmp_int) | exact ev_var rfl)
      · simp [intCmp, hb]
      · rw [if_pos hb]; repeat' (first | exact ev_var rfl)
    · apply ev_ite_f
      · repeat' (first | with_reducible (first | exact ev_int | apply ev_chain | apply evc_one | exact cmp_int) | exact ev_var rfl)
      · simp [intCmp, hb]
      · rw [if_neg hb]; repeat' (first | with_reducible (first | exact ev_glob | apply ev_bin | apply bin_int) | exact ev_var rfl | exact @rfl (Option Int) _)
  · have hc : 0 ≤ (if b = 0 then m else 2048 - m) ∧ (if b = 0 then m else 2048 - m) < 2048 := by split <;> (first | lia | omega)
    apply wg_ret
    · repeat' (first | with_reducible (first | exact ev_glob | exact ev_prices | apply ev_bin | apply ev_sub | apply bin_int | exact ib_shr4) | exact ev_var rfl)
      apply sub_prices
      · (first | lia | omega)
      · exact prices_at hc
    · exact leave_int (cut_self h)
theorem sp_price_of {c : Int} (hc : 31 ≤ c ∧ c ≤ 2017) (h : Cl σ) : orc N pr (n + 1) 287 [.int c] σ = some (.int (priceOf c), σ) := by
  have hok : ∀ k, k < 4 → (pit c k).1.natAbs < 2 ^ 64 := fun k hk => by
    obtain ⟨n, rfl⟩ : ∃ n : Nat, c = n := ⟨c.toNat, by (first | lia | omega)⟩
    rw [pit_cast, Int.natAbs_natCast]
    exact (okN_at (c := n) (by (first | lia | omega))).1 k hk
  apply fn_eq rfl rfl rfl
  apply wg_iff (β := false)
  · apply ev_or
    apply evb_go
    · repeat' (first | with_reducible (first | apply ev_not | apply ev_b1 | exact b1_isint) | exact ev_var rfl)
    · rfl
    · apply evb_go
      · repeat' (first | with_reducible (first | exact ev_int | exact ev_glob | apply ev_not | apply ev_chain | apply evc_one | apply evc_more | exact cmp_int) | exact ev_var rfl)
        simp [intCmp]; (first | lia | omega)
      · simp [intCmp]; (first | lia | omega)
      · exact evb_nil
  · intro k; cases k
  · intro k
    apply wg_next
    · repeat' (first | with_reducible (first | exact ev_int | apply ex_asg))
    · apply wg_for (fun k η τ => τ = σ ∧ η 0 = some (.int (pit c k).1) ∧ η 1 = some (.int (pit c k).2))
      · repeat' (first | with_reducible (first | exact ev_glob | apply evi_range) | exact Nat.le_of_ble_eq_true rfl)
      · exact ⟨rfl, rfl, rfl⟩
      · intro _ _ _ _; rfl
      · intro k x η τ hk ⟨h2, h0, h1⟩
        have hk4 : k < 4 := (List.getElem?_eq_some_iff.mp hk).1
        apply wg_next
        · apply ex_aug
          · exact h0
          · exact ev_var h0
          · exact ib_mul (.inl (hok k hk4))
        · apply wg_next
          · repeat' (first | with_reducible (first | exact ev_int | exact ev_glob | apply ev_bin | apply ev_b1 | apply ev_max2 | apply ex_asg | apply bin_int | exact b1_bitlen) | exact ev_var rfl | exact @rfl (Option Int) _)
          · apply wg_next
            · apply ex_aug
              · rfl
              · exact ev_var rfl
              · apply ib_shr
                split <;> (first | lia | omega)
            · apply wg_next
              · apply ex_asg
                apply ev_bin
                · apply ev_bin
                  · exact ev_int
                  · exact ev_var h1
                  · exact bin_int (ib_mul (.inl (by decide)))
                · exact ev_var rfl
                · exact bin_int rfl
              · exact wg_nil ⟨rfl, h2, rfl, rfl⟩
      · intro η' σ' ⟨h2, h0, h1⟩
        subst h2
        apply wg_ret
        · repeat' (first | with_reducible (first | exact ev_int | exact ev_glob | apply ev_bin | apply ev_b1 | apply bin_int | apply ib_mul | exact b1_bitlen) | exact ev_var (by assumption) | exact @rfl (Option Int) _ | exact Or.inl (by decide))
        · exact leave_int (cut_self h)
end


/-! a model, and its steps -/
noncomputable def V (m : Int) : Prop := 31 ≤ m ∧ m ≤ 2017
noncomputable def B01 (bs : List Int) : Prop := ∀ b ∈ bs, b = 0 ∨ b = 1
theorem next0 (m : Int) : nextM m 0 = m + (2048 - m) / 32 := rfl
theorem next1 (m : Int) : nextM m 1 = m - m / 32 := rfl
/-- a Bool of a model by its 1987 values -/
theorem allV {f : Int → Bool} (h : (List.range 1987).all (fun c => f ((c : Int) + 31)) = true) {m : Int} (hm : V m) : f m = true := by
  have := List.all_eq_true.mp h (m - 31).toNat (List.mem_range.mpr ((Int.toNat_lt (Int.sub_nonneg_of_le hm.1)).mpr (Int.lt_of_le_of_lt (Int.sub_le_sub_right hm.2 31) (by decide))))
  rw [Int.toNat_of_nonneg (Int.sub_nonneg_of_le hm.1), Int.sub_add_cancel] at this
  exact this
noncomputable abbrev Near (m : Int) : Prop := ((31 ≤ nextM m 0 ∧ nextM m 0 ≤ 2017) ∧ 31 ≤ nextM m 1 ∧ nextM m 1 ≤ 2017) ∧
    (nextM (nextM m 0) 1 ≤ nextM (nextM m 1) 0 ∧ nextM (nextM m 1) 0 - nextM (nextM m 0) 1 ≤ 2) ∧
    nextM (nextM m 1) 0 - nextM (nextM m 0) 1 = if m % 32 = 0 ∧ m ≠ 1024 then 1 else 2
theorem near_all : (List.range 1987).all (fun c => decide (Near ((c : Int) + 31))) = true := by decide +kernel
theorem near {m : Int} (h : V m) : Near m := of_decide_eq_true (allV (f := fun m => decide (Near m)) near_all h)
theorem next_V {m b : Int} (h : V m) (hb : b = 0 ∨ b = 1) : V (nextM m b) := by
  rcases hb with rfl | rfl
  · exact (near h).1.1
  · exact (near h).1.2
theorem swap {m : Int} (h : V m) : nextM (nextM m 0) 1 ≤ nextM (nextM m 1) 0 ∧ nextM (nextM m 1) 0 - nextM (nextM m 0) 1 ≤ 2 := (near h).2.1
theorem swap_eq {m : Int} (h : V m) : nextM (nextM m 1) 0 - nextM (nextM m 0) 1 = if m % 32 = 0 ∧ m ≠ 1024 then 1 else 2 := (near h).2.2
theorem next_other {m b : Int} (hb : b = 0 ∨ b = 1) : nextM (2048 - m) (1 - b) = 2048 - nextM m b := by
  rcases hb with rfl | rfl
  · exact Int.sub_sub ..
  · show 2048 - m + (2048 - (2048 - m)) / 32 = 2048 - (m - m / 32)
    rw [Int.sub_sub_self]; lia
theorem floors (a d : Int) : (a + d) / 32 = a / 32 + d / 32 ∨ (a + d) / 32 = a / 32 + (d + 31) / 32 := by
  rw [Int.add_ediv (by decide)]
  split
  · rename_i h
    right
    rw [Int.add_ediv (a := d) (b := 31) (by decide), if_pos, Int.add_assoc, show (31 : Int) / 32 = 0 from rfl, Int.add_zero]
    exact Int.le_trans h (by rw [Int.add_comm]; exact Int.add_le_add_left (Int.le_of_lt_add_one (Int.emod_lt_of_pos a (by decide))) _)
  · exact .inl (Int.add_zero _)
theorem up31 (d : Int) : 31 * d / 32 = d - (d + 31) / 32 := by lia
theorem step1 (a d : Int) : nextM (a + d) 1 - nextM a 1 = 31 * d / 32 ∨ nextM (a + d) 1 - nextM a 1 = d - d / 32 := by
  have e : nextM (a + d) 1 - nextM a 1 = d - ((a + d) / 32 - a / 32) := by rw [next1, next1]; lia
  rw [e, up31]
  rcases floors a d with h | h <;> rw [h, Int.add_comm, Int.add_sub_cancel]
  · exact .inr rfl
  · exact .inl rfl
theorem step_le {d x : Int} (h : 0 ≤ d) (hx : x = 31 * d / 32 ∨ x = d - d / 32) : 0 ≤ x ∧ x ≤ d := by
  rcases hx with rfl | rfl
  · exact ⟨Int.ediv_nonneg (Int.mul_nonneg (by decide) h) (by decide), Int.ediv_le_of_le_mul (by decide) (by lia)⟩
  · exact ⟨Int.sub_nonneg_of_le (Int.ediv_le_self _ h), Int.sub_le_self _ (Int.ediv_nonneg h (by decide))⟩
theorem next_gap {a c b : Int} (h : a ≤ c) (hb : b = 0 ∨ b = 1) : nextM c b - nextM a b = 31 * (c - a) / 32 ∨ nextM c b - nextM a b = (c - a) - (c - a) / 32 := by
  rcases hb with rfl | rfl
  · have := step1 (2048 - c) (c - a)
    rw [show 2048 - c + (c - a) = 2048 - a by lia, show (1 : Int) = 1 - 0 from rfl, next_other (.inl rfl), next_other (.inl rfl), show ∀ x y : Int, 2048 - x - (2048 - y) = y - x by lia] at this
    exact this
  · have := step1 a (c - a)
    rw [show a + (c - a) = c by lia] at this
    exact this
theorem next_mono {a c b : Int} (h : a ≤ c) (hb : b = 0 ∨ b = 1) : nextM a b ≤ nextM c b ∧ nextM c b - nextM a b ≤ c - a :=
  have := step_le (Int.sub_nonneg_of_le h) (next_gap h hb)
  ⟨Int.le_of_sub_nonneg this.1, this.2⟩

/-! led -/
theorem led_cons (m b : Int) (bs : List Int) : ledF m (b :: bs) = ledF (nextM m b) bs := rfl
theorem led_append (m : Int) (a b : List Int) : ledF m (a ++ b) = ledF (ledF m a) b := List.foldl_append
theorem B01.cons {b : Int} {bs : List Int} (h : B01 (b :: bs)) : (b = 0 ∨ b = 1) ∧ B01 bs := ⟨h b List.mem_cons_self, fun x hx => h x (List.mem_cons_of_mem _ hx)⟩
theorem led_mono : ∀ {bs : List Int} {a c : Int}, a ≤ c → B01 bs → ledF a bs ≤ ledF c bs ∧ ledF c bs - ledF a bs ≤ c - a
  | [], a, c, h, _ => ⟨h, Int.le_refl _⟩
  | b :: bs, a, c, h, hb => by
    refine Classical.byContradiction fun hG0 => ?_
    obtain ⟨h1, h2⟩ := next_mono h hb.cons.1
    obtain ⟨h3, h4⟩ := led_mono (bs := bs) h1 hb.cons.2
    refine hG0 ?_
    rw [led_cons, led_cons]
    exact ⟨h3, by (first | lia | omega)⟩
noncomputable def zs (n : Nat) : List Int := List.replicate n 0
noncomputable def os (n : Nat) : List Int := List.replicate n 1
theorem b_zs (n : Nat) : B01 (zs n) := fun b hb => .inl (List.eq_of_mem_replicate hb)
theorem b_os (n : Nat) : B01 (os n) := fun b hb => .inr (List.eq_of_mem_replicate hb)
/-- a 0 moved behind ones -/
theorem past1 : ∀ (o : Nat) {m : Int}, V m → ledF (nextM m 0) (os o) ≤ nextM (ledF m (os o)) 0
  | 0, m, h => Int.le_refl _
  | o + 1, m, h => by
    show ledF (nextM (nextM m 0) 1) (os o) ≤ nextM (ledF (nextM m 1) (os o)) 0
    exact Int.le_trans (led_mono (swap h).1 (b_os o)).1 (past1 o (next_V h (.inr rfl)))
/-- a 1 moved ahead of zeros -/
theorem past0 : ∀ (z : Nat) {m : Int}, V m → nextM (ledF m (zs z)) 1 ≤ ledF (nextM m 1) (zs z) ∧ ledF (nextM m 1) (zs z) - nextM (ledF m (zs z)) 1 ≤ 2 * z
  | 0, m, h => ⟨Int.le_refl _, by show nextM m 1 - nextM m 1 ≤ _; (first | lia | omega)⟩
  | z + 1, m, h => by
    obtain ⟨h1, h2⟩ := past0 z (next_V h (.inl rfl))
    obtain ⟨h3, h4⟩ := swap h
    obtain ⟨h5, h6⟩ := led_mono h3 (b_zs z)
    show nextM (ledF (nextM m 0) (zs z)) 1 ≤ ledF (nextM (nextM m 1) 0) (zs z) ∧ ledF (nextM (nextM m 1) 0) (zs z) - nextM (ledF (nextM m 0) (zs z)) 1 ≤ 2 * ((z + 1 : Nat) : Int)
    refine ⟨Int.le_trans h1 h5, ?_⟩
    push_cast
    (first | lia | omega)
theorem order_mid : ∀ (bs : List Int) (z o : Nat) {m : Int}, V m → B01 bs → bs.Perm (zs z ++ os o) → ledF m (zs z ++ os o) ≤ ledF m bs ∧ ledF m bs ≤ ledF m (os o ++ zs z)
  | [], z, o, m, h, hb, hp => by
    have := hp.length_eq
    simp only [List.length_nil, List.length_append, zs, os, List.length_replicate] at this
    obtain rfl : z = 0 := by (first | lia | omega)
    obtain rfl : o = 0 := by (first | lia | omega)
    exact ⟨Int.le_refl _, Int.le_refl _⟩
  | b :: bs, z, o, m, h, hb, hp => by
    have hm : b ∈ zs z ++ os o := hp.mem_iff.mp List.mem_cons_self
    rcases hb.cons.1 with rfl | rfl
    · obtain ⟨z, rfl⟩ : ∃ z', z = z' + 1 := by
        cases z with
        | zero => exact absurd (List.eq_of_mem_replicate (show (0 : Int) ∈ os o from hm)) (by decide)
        | succ z => exact ⟨z, rfl⟩
      have hp' : bs.Perm (zs z ++ os o) := (List.perm_cons 0).mp hp
      obtain ⟨h1, h2⟩ := order_mid bs z o (next_V h (.inl rfl)) hb.cons.2 hp'
      refine ⟨h1, Int.le_trans h2 ?_⟩
      show ledF (nextM m 0) (os o ++ zs z) ≤ ledF m (os o ++ zs (z + 1))
      rw [led_append, led_append]
      show _ ≤ ledF (nextM (ledF m (os o)) 0) (zs z)
      exact (led_mono (past1 o h) (b_zs z)).1
    · obtain ⟨o, rfl⟩ : ∃ o', o = o' + 1 := by
        cases o with
        | zero =>
          rw [show os 0 = [] from rfl, List.append_nil] at hm
          exact absurd (List.eq_of_mem_replicate hm) (by decide)
        | succ o => exact ⟨o, rfl⟩
      have hp' : bs.Perm (zs z ++ os o) := (List.perm_cons 1).mp (hp.trans List.perm_middle)
      obtain ⟨h1, h2⟩ := order_mid bs z o (next_V h (.inr rfl)) hb.cons.2 hp'
      refine ⟨Int.le_trans ?_ h1, h2⟩
      rw [led_append, led_append]
      show ledF (nextM (ledF m (zs z)) 1) (os o) ≤ _
      exact (led_mono (past0 z h).1 (b_os o)).1
theorem order_gap (z : Nat) : ∀ (o : Nat) {m : Int}, V m → ledF m (os o ++ zs z) - ledF m (zs z ++ os o) ≤ 2 * o * z
  | 0, m, h => by
    show ledF m (zs z) - ledF m (zs z ++ []) ≤ _
    rw [List.append_nil]
    simp
  | o + 1, m, h => by
    have h1 := order_gap z o (next_V h (.inr rfl))
    have h2 := (led_mono (past0 z h).1 (b_os o)).2
    have h3 := (past0 z h).2
    show ledF (nextM m 1) (os o ++ zs z) - ledF m (zs z ++ os (o + 1)) ≤ _
    rw [led_append m]
    show ledF (nextM m 1) (os o ++ zs z) - ledF (nextM (ledF m (zs z)) 1) (os o) ≤ 2 * ((o + 1 : Nat) : Int) * z
    rw [led_append (nextM m 1) (zs z)] at h1
    have e : 2 * ((o + 1 : Nat) : Int) * z = 2 * (o : Int) * z + 2 * z := by push_cast; rw [Int.mul_add, Int.add_mul]; (first | lia | omega)
    rw [e]
    (first | lia | omega)
theorem perm_zo : ∀ (bs : List Int), B01 bs → ∃ z o : Nat, bs.Perm (zs z ++ os o) ∧ bs.sum = o ∧ bs.length = z + o
  | [], h => ⟨0, 0, .refl _, rfl, rfl⟩
  | b :: bs, h => by
    obtain ⟨z, o, h1, h2, h3⟩ := perm_zo bs h.cons.2
    rcases h.cons.1 with rfl | rfl
    · exact ⟨z + 1, o, (List.perm_cons 0).mpr h1, by rw [List.sum_cons, h2]; (first | lia | omega), by rw [List.length_cons, h3]; (first | lia | omega)⟩
    · exact ⟨z, o + 1, ((List.perm_cons 1).mpr h1).trans List.perm_middle.symm, by rw [List.sum_cons, h2]; push_cast; (first | lia | omega), by rw [List.length_cons, h3]; (first | lia | omega)⟩
noncomputable abbrev sortL (l : List Int) : List Int := l.mergeSort fun a b => decide (a ≤ b)
theorem sort_of {l l' : List Int} (hp : l.Perm l') (hs : l'.Pairwise (· ≤ ·)) : sortL l = l' := by
  have h1 := List.mergeSort_perm l (fun a b => decide (a ≤ b))
  have h2 := List.pairwise_mergeSort (le := fun (a b : Int) => decide (a ≤ b)) (fun a b c h1 h2 => by simp at *; (first | lia | omega)) (fun a b => by simp; (first | lia | omega)) l
  have h2 : (sortL l).Pairwise (· ≤ ·) := h2.imp fun h => of_decide_eq_true h
  exact List.Perm.eq_of_pairwise (le := (· ≤ ·)) (fun a b _ _ h1 h2 => Int.le_antisymm h1 h2) h2 hs (h1.trans hp)
theorem sort_zo {bs : List Int} {z o : Nat} (h : bs.Perm (zs z ++ os o)) : sortL bs = zs z ++ os o := by
  refine sort_of h ?_
  rw [List.pairwise_append]
  refine ⟨List.pairwise_replicate.mpr (.inr (Int.le_refl _)), List.pairwise_replicate.mpr (.inr (Int.le_refl _)), fun a ha b hb => ?_⟩
  rw [List.eq_of_mem_replicate ha, List.eq_of_mem_replicate hb]; decide
theorem rev_zo (z o : Nat) : (zs z ++ os o).reverse = os o ++ zs z := by rw [List.reverse_append, zs, os, List.reverse_replicate, List.reverse_replicate]

/-! the lack's turns -/
noncomputable def fIt : Nat → Int → Int
  | 0, g => g
  | k + 1, g => fIt k (g - g / 32)
theorem fIt_add : ∀ (j k : Nat) (g : Int), fIt (j + k) g = fIt k (fIt j g)
  | 0, k, g => by rw [Nat.zero_add]; rfl
  | j + 1, k, g => by rw [show j + 1 + k = (j + k) + 1 by (first | lia | omega)]; exact fIt_add j k _
theorem fIt_succ (k : Nat) (g : Int) : fIt (k + 1) g = fIt k g - fIt k g / 32 := fIt_add k 1 g
theorem fIt_nonneg : ∀ (k : Nat) {g : Int}, 0 ≤ g → 0 ≤ fIt k g ∧ fIt k g ≤ g
  | 0, g, h => ⟨h, Int.le_refl _⟩
  | k + 1, g, h => by
    have := fIt_nonneg k (g := g - g / 32) (by (first | lia | omega))
    refine ⟨this.1, Int.le_trans this.2 (by (first | lia | omega))⟩
/-- the steps in a band -/
theorem band {p : Int} (hp : 0 < p) : ∀ (m : Nat) {g : Int}, g < 32 * (p + 1) → (m = 0 ∨ 32 * p ≤ g - p * (m - 1 : Int)) → fIt m g = g - p * m ∧ ∀ i, i < m → 32 * p ≤ fIt i g
  | 0, g, h1, h2 => ⟨by simp [fIt], fun i hi => absurd hi (Nat.not_lt_zero _)⟩
  | m + 1, g, h1, h2 => by
    have h2 : 32 * p ≤ g - p * (m : Int) := by
      rcases h2 with h | h
      · exact absurd h (Nat.succ_ne_zero _)
      · rw [show (((m + 1 : Nat) : Int) - 1) = m by (first | lia | omega)] at h; exact h
    have hm : 0 ≤ p * (m : Int) := Int.mul_nonneg (by (first | lia | omega)) (by (first | lia | omega))
    have e : g / 32 = p := by (first | lia | omega)
    obtain ⟨h3, h4⟩ := band hp m (g := g - p) (by (first | lia | omega)) (by
      cases m with
      | zero => exact .inl rfl
      | succ m =>
        refine .inr ?_
        have : p * ((m + 1 : Nat) : Int) = p * (((m + 1 : Nat) : Int) - 1) + p := by rw [Int.mul_sub]; (first | lia | omega)
        (first | lia | omega))
    refine ⟨?_, fun i hi => ?_⟩
    · show fIt m (g - g / 32) = _
      rw [e, h3]
      have : p * ((m + 1 : Nat) : Int) = p * (m : Int) + p := by push_cast; rw [Int.mul_add]; (first | lia | omega)
      (first | lia | omega)
    · cases i with
      | zero => show 32 * p ≤ g; (first | lia | omega)
      | succ i =>
        show 32 * p ≤ fIt i (g - g / 32)
        rw [e]; exact h4 i (by (first | lia | omega))
noncomputable def bnd : Nat → Int
  | 0 => 0
  | k + 1 => bnd k + (31 / (63 - k : Int) + 1)
theorem parts_get {k : Nat} {x : Int} (h : parts[k]? = some x) : k < 63 ∧ x = 63 - k := by
  refine Classical.byContradiction fun hG0 => ?_
  unfold parts at h
  rw [List.getElem?_map, Option.map_eq_some_iff] at h
  obtain ⟨y, h1, h2⟩ := h
  obtain ⟨h3, h4⟩ := List.getElem?_eq_some_iff.mp h1
  refine hG0 ?_
  rw [List.getElem_range] at h4
  rw [List.length_range] at h3
  exact ⟨h3, by (first | lia | omega)⟩
theorem parts_len : parts.length = 63 := by unfold parts; rw [List.length_map, List.length_range]
structure TInv (g : Int) (k : Nat) (p : Int × Int) : Prop where
  lo : 0 ≤ p.1
  hi : p.1 < 32 * (64 - k : Int)
  f0 : 0 ≤ p.2
  fb : p.2 ≤ bnd k
  it : fIt p.2.toNat g = p.1
  up : ∀ i, i < p.2.toNat → 32 ≤ fIt i g
theorem part_step {L x : Int} (hx : 0 < x) (hc : 32 * x ≤ L) (hh : L < 32 * (x + 1)) : 0 ≤ (L - 32 * x) / x ∧ (L - 32 * x) / x ≤ 31 / x ∧
    31 * x ≤ L - x * ((L - 32 * x) / x + 1) ∧ L - x * ((L - 32 * x) / x + 1) < 32 * x := by
  have h1 := Int.emod_nonneg (L - 32 * x) (Int.ne_of_gt hx)
  have h2 := Int.emod_lt_of_pos (L - 32 * x) hx
  have h3 := Int.mul_ediv_add_emod (L - 32 * x) x
  refine ⟨Int.ediv_nonneg (Int.sub_nonneg_of_le hc) (Int.le_of_lt hx), Int.ediv_le_ediv hx (by lia), ?_⟩
  rw [Int.mul_add, Int.mul_one]
  generalize x * ((L - 32 * x) / x) = y at *
  generalize (L - 32 * x) % x = r at *
  constructor <;> lia
theorem tinv_step {g : Int} {k : Nat} {x : Int} {p : Int × Int} (I : TInv g k p) (hk : k < 63) (hx : x = 63 - k) : TInv g (k + 1) (tstep p x) := by
  obtain ⟨L, F⟩ := p
  have hxp : 0 < x := by lia
  have hb : bnd (k + 1) = bnd k + (31 / x + 1) := by rw [hx]; rfl
  have hk1 : (64 : Int) - k = x + 1 := by lia
  have hk2 : (64 : Int) - (k + 1 : Nat) = x := by lia
  have hhi : L < 32 * (x + 1) := hk1 ▸ I.hi
  show TInv g (k + 1) (if 32 * x ≤ L then (L - x * ((L - 32 * x) / x + 1), F + ((L - 32 * x) / x + 1)) else (L, F))
  by_cases hc : 32 * x ≤ L
  · obtain ⟨h1, h2, h3, h4⟩ := part_step hxp hc hhi
    rw [if_pos hc]
    generalize (L - 32 * x) / x = q at *
    obtain ⟨M, rfl⟩ := Int.eq_ofNat_of_zero_le h1
    obtain ⟨f, rfl⟩ := Int.eq_ofNat_of_zero_le I.f0
    have it := I.it
    have up := I.up
    have e : (f : Int) + ((M : Int) + 1) = ((f + (M + 1) : Nat) : Int) := rfl
    rw [Int.toNat_natCast] at it up
    obtain ⟨b1, b2⟩ := band hxp (M + 1) (g := L) hhi (.inr (by
      rw [Int.natCast_add, show ((1 : Nat) : Int) = 1 from rfl, Int.add_sub_cancel]
      rw [Int.mul_add, Int.mul_one] at h3
      generalize x * (M : Int) = y at *
      lia))
    refine ⟨Int.le_trans (Int.mul_nonneg (by decide) (Int.le_of_lt hxp)) h3, by rw [hk2]; exact h4, e ▸ Int.natCast_nonneg _, by rw [hb]; exact Int.add_le_add I.fb (Int.add_le_add_right h2 1), ?_, fun i hi => ?_⟩
    · rw [e, Int.toNat_natCast, fIt_add, it]; exact b1
    · rw [e, Int.toNat_natCast] at hi
      rcases Nat.lt_or_ge i f with hlt | hge
      · exact up i hlt
      · obtain ⟨j, rfl⟩ := Nat.exists_eq_add_of_le hge
        rw [fIt_add, it]
        exact Int.le_trans (by lia) (b2 j (Nat.lt_of_add_lt_add_left hi))
  · rw [if_neg hc]
    exact ⟨I.lo, by rw [hk2]; exact Int.lt_of_not_ge hc, I.f0, by
      rw [hb]; exact Int.le_trans I.fb (Int.le_add_of_nonneg_right (Int.le_add_one (Int.ediv_nonneg (by decide) (Int.le_of_lt hxp)))), I.it, I.up⟩
theorem tinv {g : Int} (h0 : 0 ≤ g) (h1 : g < 2048) (k : Nat) : k ≤ 63 → TInv g k ((parts.take k).foldl tstep (g, 0)) := by
  induction k with
  | zero => exact fun _ => ⟨h0, h1, Int.le_refl _, Int.le_refl _, rfl, fun i hi => absurd hi (Nat.not_lt_zero _)⟩
  | succ k ih =>
    intro hk
    have hx : parts[k]? = some (parts[k]'(Nat.lt_of_lt_of_eq hk parts_len.symm)) := List.getElem?_eq_getElem _
    rw [foldl_take hx]
    exact tinv_step (ih (Nat.le_of_lt hk)) hk (parts_get hx).2
structure Turns (g : Int) : Prop where
  lo : 0 ≤ turnsF g
  hi : turnsF g ≤ 300
  up : ∀ i, i < (turnsF g).toNat → 32 ≤ fIt i g
  dn : fIt (turnsF g).toNat g < 32
theorem turns_ok {g : Int} (h0 : 0 ≤ g) (h1 : g < 2048) : Turns g := by
  have I := tinv h0 h1 63 (Nat.le_refl _)
  have e : parts.take 63 = parts := by rw [List.take_of_length_le (by rw [parts_len]; exact Nat.le_refl _)]
  rw [e] at I
  have hb : bnd 63 ≤ 300 := by decide
  refine ⟨I.f0, Int.le_trans I.fb hb, I.up, ?_⟩
  have := I.it
  unfold turnsF
  rw [this]
  exact Int.lt_of_lt_of_le I.hi (by decide)
theorem fIt_low {g : Int} : ∀ (k : Nat), 0 ≤ g → g < 32 → fIt k g = g
  | 0, _, _ => rfl
  | k + 1, h, h' => by
    show fIt k (g - g / 32) = g
    rw [show g - g / 32 = g by (first | lia | omega)]; exact fIt_low k h h'
theorem turns_past {g : Int} (h0 : 0 ≤ g) (h1 : g < 2048) {k : Nat} (hk : (turnsF g).toNat ≤ k) : fIt k g < 32 := by
  have T := turns_ok h0 h1
  obtain ⟨j, rfl⟩ : ∃ j, k = (turnsF g).toNat + j := ⟨k - (turnsF g).toNat, by (first | lia | omega)⟩
  rw [fIt_add, fIt_low j (fIt_nonneg _ h0).1 T.dn]
  exact T.dn
theorem fIt_31 : ∀ (k : Nat) {g : Int}, 31 ≤ g → 31 ≤ fIt k g
  | 0, g, h => h
  | k + 1, g, h => fIt_31 k (by (first | lia | omega))


/-! prices -/
theorem prices_desc : prices.Pairwise (fun a b => b ≤ a) := by decide +kernel
theorem priceAt_anti {a c : Int} (h0 : 0 ≤ a) (h : a ≤ c) (h1 : c < 2048) : priceAt c ≤ priceAt a := by
  have ha := prices_at (c := a) (by (first | lia | omega))
  have hc := prices_at (c := c) (by (first | lia | omega))
  obtain ⟨ha1, ha2⟩ := List.getElem?_eq_some_iff.mp ha
  obtain ⟨hc1, hc2⟩ := List.getElem?_eq_some_iff.mp hc
  by_cases e : (a / 16).toNat = (c / 16).toNat
  · have : some (priceAt c) = some (priceAt a) := by rw [← hc, ← ha, e]
    rw [Option.some.inj this]; exact Int.le_refl _
  · rw [← ha2, ← hc2]
    exact List.pairwise_iff_getElem.mp prices_desc _ _ ha1 hc1 (by (first | lia | omega))
theorem priceOf_bounds {c : Int} (h : 31 ≤ c ∧ c ≤ 2017) : priceOf 2017 ≤ priceOf c ∧ priceOf c ≤ priceOf 31 := by
  refine Classical.byContradiction fun hG0 => ?_
  obtain ⟨k, rfl⟩ : ∃ k : Nat, c = k := ⟨c.toNat, by (first | lia | omega)⟩
  have e : ∀ k : Nat, priceOf (k : Int) = 177 - (((pitN k 4).2 + blN (pitN k 4).1 : Nat) : Int) := fun k => by
    unfold priceOf; rw [pit_cast, bitLen_cast]; push_cast; (first | lia | omega)
  obtain ⟨_, h1, h2⟩ := okN_at (c := k) (by (first | lia | omega))
  refine hG0 ?_
  have e1 := e 2017
  have e2 := e 31
  rw [e k, show (2017 : Int) = ((2017 : Nat) : Int) from rfl, show (31 : Int) = ((31 : Nat) : Int) from rfl, e1, e2]
  have a1 : (pitN 2017 4).2 + blN (pitN 2017 4).1 = 176 := by decide +kernel
  have a2 : (pitN 31 4).2 + blN (pitN 31 4).1 = 80 := by decide +kernel
  (first | lia | omega)


/-! the run -/
noncomputable def nIt (b : Int) : Nat → Int → Int
  | 0, m => m
  | k + 1, m => nextM (nIt b k m) b
noncomputable def endF (b : Int) : Int := if b = 0 then 2017 else 31
noncomputable def lackF (b m : Int) : Int := if b = 0 then 2048 - m else m
noncomputable def ch (b x : Int) : Int := if b = 0 then x else 2048 - x
theorem nIt0 (m : Int) : ∀ k, nIt 0 k m = 2048 - fIt k (2048 - m)
  | 0 => by show m = 2048 - (2048 - m); (first | lia | omega)
  | k + 1 => by
    show nextM (nIt 0 k m) 0 = _
    rw [nIt0 m k, fIt_succ, next0]; (first | lia | omega)
theorem nIt1 (m : Int) : ∀ k, nIt 1 k m = fIt k m
  | 0 => rfl
  | k + 1 => by
    show nextM (nIt 1 k m) 1 = _
    rw [nIt1 m k, fIt_succ, next1]
theorem ch_nIt {b m : Int} (hb : b = 0 ∨ b = 1) (k : Nat) : ch b (nIt b k m) = 2048 - fIt k (lackF b m) := by
  rcases hb with rfl | rfl
  · exact nIt0 m k
  · show 2048 - nIt 1 k m = _
    rw [nIt1]; rfl
theorem ch_end {b : Int} (hb : b = 0 ∨ b = 1) : ch b (endF b) = 2017 := by rcases hb with rfl | rfl <;> rfl
theorem ch_inj {b x y : Int} (h : ch b x = ch b y) : x = y := by unfold ch at h; split at h <;> (first | lia | omega)
theorem V_ch {b x : Int} : V (ch b x) ↔ V x := by unfold ch V; split <;> (first | omega | lia)
theorem V_lack {b m : Int} (h : V m) : V (lackF b m) := by unfold lackF V at *; split <;> (first | omega | lia)
noncomputable def rowL (m b : Int) (k : Nat) : List Int := (List.range k).map fun i => nIt b i m
theorem rowL_succ (m b : Int) (k : Nat) : rowL m b (k + 1) = rowL m b k ++ [nIt b k m] := by unfold rowL; rw [List.range_succ, List.map_append]; rfl
theorem rowL_len (m b : Int) (k : Nat) : (rowL m b k).length = k := by unfold rowL; rw [List.length_map, List.length_range]
theorem fIt_le {i j : Nat} (h : i ≤ j) {g : Int} (hg : 0 ≤ g) : fIt j g ≤ fIt i g := by
  obtain ⟨d, rfl⟩ : ∃ d, j = i + d := ⟨j - i, by (first | lia | omega)⟩
  rw [fIt_add]; exact (fIt_nonneg d (fIt_nonneg i hg).1).2
section
variable {b m : Int} (hm : V m) (hb : b = 0 ∨ b = 1)
include hm hb
theorem nIt_V (k : Nat) : V (nIt b k m) := by
  have h1 := V_lack (b := b) hm
  rw [← V_ch (b := b), ch_nIt hb]
  have h2 := fIt_31 k h1.1
  have h3 := (fIt_nonneg k (show 0 ≤ lackF b m from Int.le_trans (by decide) h1.1)).2
  unfold V at *; (first | lia | omega)
theorem row_end {k : Nat} (hk : (turnsF (lackF b m)).toNat ≤ k) : nIt b k m = endF b := by
  have h1 := V_lack (b := b) hm
  refine ch_inj (b := b) ?_
  rw [ch_nIt hb, ch_end hb]
  have h2 := fIt_31 k h1.1
  have h3 := turns_past (g := lackF b m) (by have := h1.1; (first | lia | omega)) (by have := h1.2; (first | lia | omega)) hk
  (first | lia | omega)
theorem row_not {k : Nat} (hk : k < (turnsF (lackF b m)).toNat) : nIt b k m ≠ endF b := fun e => by
  have h1 := V_lack (b := b) hm
  have h2 := (turns_ok (g := lackF b m) (by have := h1.1; (first | lia | omega)) (by have := h1.2; (first | lia | omega))).up k hk
  have := congrArg (ch b) e
  rw [ch_nIt hb, ch_end hb] at this
  (first | lia | omega)
theorem row_drop : (rowL m b ((turnsF (lackF b m)).toNat + 3)).drop (turnsF (lackF b m)).toNat = [endF b, endF b, endF b] := by
  rw [show (turnsF (lackF b m)).toNat + 3 = (turnsF (lackF b m)).toNat + 1 + 1 + 1 from rfl, rowL_succ, rowL_succ, rowL_succ, row_end hm hb (Nat.le_refl _), row_end hm hb (Nat.le_add_right _ _), row_end hm hb (Nat.le_add_right _ (1 + 1)),
    List.append_assoc, List.append_assoc]
  exact List.drop_left' (rowL_len _ _ _)
theorem row_take : ((rowL m b ((turnsF (lackF b m)).toNat + 3)).take (turnsF (lackF b m)).toNat).contains (endF b) = false := by
  have e : (rowL m b ((turnsF (lackF b m)).toNat + 3)).take (turnsF (lackF b m)).toNat = rowL m b (turnsF (lackF b m)).toNat := by
    rw [show (turnsF (lackF b m)).toNat + 3 = (turnsF (lackF b m)).toNat + 1 + 1 + 1 from rfl, rowL_succ, rowL_succ, rowL_succ, List.append_assoc, List.append_assoc]
    exact List.take_left' (rowL_len _ _ _)
  rw [e]
  cases h : (rowL m b (turnsF (lackF b m)).toNat).contains (endF b) with
  | false => rfl
  | true =>
    obtain ⟨i, hi, e⟩ := List.mem_map.mp (List.contains_iff_mem.mp h)
    exact absurd e (row_not hm hb (List.mem_range.mp hi))
theorem row_pair (k : Nat) : (rowL m b k).Pairwise fun x y => ch b x ≤ ch b y := by
  unfold rowL
  rw [List.pairwise_map]
  refine List.pairwise_lt_range.imp fun {i j} h => ?_
  rw [ch_nIt hb, ch_nIt hb]
  have := fIt_le (Nat.le_of_lt h) (g := lackF b m) (by have := (V_lack (b := b) hm).1; (first | lia | omega))
  (first | lia | omega)
theorem row_V (k : Nat) : ∀ x ∈ rowL m b k, V x := fun x hx => by
  obtain ⟨i, _, rfl⟩ := List.mem_map.mp hx
  exact nIt_V hm hb i
end
theorem every_mem {k : Nat} {xs : List Int} {x : Int} (h : x ∈ everyL k xs) : x ∈ xs := by
  obtain ⟨i, _, e⟩ := List.mem_filterMap.mp h
  exact List.mem_of_getElem? e
theorem every_len (k : Nat) (xs : List Int) : (everyL k xs).length ≤ (xs.length + k - 1) / k := by
  have := List.length_filterMap_le (fun i => xs[k * i]?) (List.range ((xs.length + k - 1) / k))
  rwa [List.length_range] at this
theorem every_pair {R : Int → Int → Prop} {k : Nat} (hk : 0 < k) {xs : List Int} (h : xs.Pairwise R) : (everyL k xs).Pairwise R := by
  unfold everyL
  rw [List.pairwise_filterMap]
  refine List.pairwise_lt_range.imp fun {i j} hij x hx y hy => ?_
  obtain ⟨h1, rfl⟩ := List.getElem?_eq_some_iff.mp hx
  obtain ⟨h2, rfl⟩ := List.getElem?_eq_some_iff.mp hy
  exact List.pairwise_iff_getElem.mp h _ _ h1 h2 (Nat.mul_lt_mul_of_pos_left hij hk)
noncomputable def someL (m b : Int) : List Int := everyL 8 (rowL m b ((turnsF (lackF b m)).toNat + 3)) ++ [endF b]
section
variable {b m : Int} (hm : V m) (hb : b = 0 ∨ b = 1)
include hm hb
theorem some_V : ∀ x ∈ someL m b, V x := fun x hx => by
  rcases List.mem_append.mp hx with hx | hx
  · exact row_V hm hb _ x (every_mem hx)
  · rw [List.mem_singleton] at hx; subst hx
    rcases hb with rfl | rfl <;> exact ⟨by decide, by decide⟩
theorem turns_b : (turnsF (lackF b m)).toNat ≤ 300 ∧ 0 ≤ turnsF (lackF b m) := by
  have h1 := V_lack (b := b) hm
  have := turns_ok (g := lackF b m) (by have := h1.1; (first | lia | omega)) (by have := h1.2; (first | lia | omega))
  exact ⟨by have := this.hi; (first | lia | omega), this.lo⟩
theorem some_len : (someL m b).length ≤ 40 := by
  unfold someL
  rw [List.length_append]
  have h1 := every_len 8 (rowL m b ((turnsF (lackF b m)).toNat + 3))
  rw [rowL_len] at h1
  have := (turns_b hm hb).1
  simp only [List.length_cons, List.length_nil]
  (first | lia | omega)
theorem some_pair : (someL m b).Pairwise fun x y => ch b x ≤ ch b y := by
  unfold someL
  rw [List.pairwise_append]
  refine ⟨every_pair (by decide) (row_pair hm hb _), List.pairwise_singleton _ _, fun x hx y hy => ?_⟩
  rw [List.mem_singleton] at hy; subst hy
  rw [ch_end hb]
  exact (V_ch.mpr (row_V hm hb _ x (every_mem hx))).2
theorem same_sorted : (sortL ((someL m b).map fun x => priceF x b)).reverse = (someL m b).map fun x => priceF x b := by
  have h : (((someL m b).map fun x => priceF x b).reverse).Pairwise (· ≤ ·) := by
    rw [List.pairwise_reverse, List.pairwise_map]
    refine (List.Pairwise.and_mem.mp (some_pair hm hb)).imp fun {x y} ⟨h1, h2, h3⟩ => ?_
    have v1 := V_ch (b := b) |>.mpr (some_V hm hb x h1)
    have v2 := V_ch (b := b) |>.mpr (some_V hm hb y h2)
    exact priceAt_anti (a := ch b x) (c := ch b y) (by have := v1.1; (first | lia | omega)) h3 (by have := v2.2; (first | lia | omega))
  rw [sort_of (List.reverse_perm _).symm h, List.reverse_reverse]
theorem other_sorted : sortL ((someL m b).map fun x => priceF x (1 - b)) = (someL m b).map fun x => priceF x (1 - b) := by
  have e : ∀ x, priceF x (1 - b) = priceAt (2048 - ch b x) := fun x => by
    rcases hb with rfl | rfl
    · rfl
    · show priceAt x = priceAt (2048 - (2048 - x))
      rw [show 2048 - (2048 - x) = x by (first | lia | omega)]
  refine sort_of (.refl _) ?_
  rw [List.pairwise_map]
  refine (List.Pairwise.and_mem.mp (some_pair hm hb)).imp fun {x y} ⟨h1, h2, h3⟩ => ?_
  have v1 := V_ch (b := b) |>.mpr (some_V hm hb x h1)
  have v2 := V_ch (b := b) |>.mpr (some_V hm hb y h2)
  rw [e, e]
  exact priceAt_anti (a := 2048 - ch b y) (c := 2048 - ch b x) (by have := v2.2; (first | lia | omega)) (by (first | lia | omega)) (by have := v1.1; (first | lia | omega))
theorem exact_same : priceOf (if b = 0 then endF b else 2048 - endF b) ≤ priceOf (if b = 0 then m else 2048 - m) := by
  have h := V_ch (b := b) |>.mpr hm
  have e : (if b = 0 then endF b else 2048 - endF b) = 2017 := ch_end hb
  rw [e]
  exact (priceOf_bounds h).1
theorem exact_other : priceOf (if 1 - b = 0 then m else 2048 - m) ≤ priceOf (if 1 - b = 0 then endF b else 2048 - endF b) := by
  rcases hb with rfl | rfl
  · exact (priceOf_bounds (c := 2048 - m) (by have := hm.1; have := hm.2; (first | lia | omega))).2
  · exact (priceOf_bounds (c := m) hm).2
end


/-! octets as one number -/
noncomputable def numF (a : Int) (l : List Int) : Int := l.foldl (fun a x => a * 256 + x) a
noncomputable def num (l : List Int) : Int := numF 0 l
noncomputable def Oct (l : List Int) : Prop := ∀ x ∈ l, 0 ≤ x ∧ x < 256
theorem num_append (a b : List Int) : num (a ++ b) = numF (num a) b := List.foldl_append
theorem num_one (a : List Int) (x : Int) : num (a ++ [x]) = num a * 256 + x := num_append a [x]
theorem numF_bounds : ∀ (b : List Int) (x : Int), Oct b → x * 256 ^ b.length ≤ numF x b ∧ numF x b < (x + 1) * 256 ^ b.length
  | [], x, h => by show x * 256 ^ 0 ≤ x ∧ x < (x + 1) * 256 ^ 0; (first | lia | omega)
  | y :: b, x, h => by
    obtain ⟨h1, h2⟩ := numF_bounds b (x * 256 + y) fun z hz => h z (List.mem_cons_of_mem _ hz)
    have hy := h y List.mem_cons_self
    have hp : (0 : Int) ≤ 256 ^ b.length := Int.le_of_lt (Int.pow_pos (by decide))
    have e1 : x * 256 ^ (b.length + 1) = (x * 256) * 256 ^ b.length := by rw [Int.pow_succ, Int.mul_comm (256 ^ b.length) 256, Int.mul_assoc]
    have e2 : (x + 1) * 256 ^ (b.length + 1) = ((x + 1) * 256) * 256 ^ b.length := by rw [Int.pow_succ, Int.mul_comm (256 ^ b.length) 256, Int.mul_assoc]
    show x * 256 ^ (b.length + 1) ≤ numF (x * 256 + y) b ∧ numF (x * 256 + y) b < (x + 1) * 256 ^ (b.length + 1)
    rw [e1, e2]
    exact ⟨Int.le_trans (Int.mul_le_mul_of_nonneg_right (by (first | lia | omega)) hp) h1, Int.lt_of_lt_of_le h2 (Int.mul_le_mul_of_nonneg_right (by (first | lia | omega)) hp)⟩
theorem num_carry (a : List Int) (c : Int) : ∀ h : Nat, num (a ++ [c + 1] ++ List.replicate h 0) = num (a ++ [c] ++ List.replicate h 255) + 1
  | 0 => by
    rw [List.replicate_zero, List.replicate_zero, List.append_nil, List.append_nil, num_one, num_one]; (first | lia | omega)
  | h + 1 => by
    rw [List.replicate_succ', List.replicate_succ', ← List.append_assoc, ← List.append_assoc, num_one, num_one, num_carry a c h]; (first | lia | omega)

/-! the writer -/
structure W where
  made : List Int
  low : Int
  span : Int
  cache : Int
  held : Int
noncomputable def W.pend (w : W) : List Int := w.made ++ [w.cache] ++ List.replicate (w.held.toNat - 1) 255
noncomputable def W.val (w : W) : Int := num w.pend * 4294967296 + w.low
noncomputable def W.k (w : W) : Nat := w.made.length + w.held.toNat - 1
noncomputable def shiftW (w : W) : W :=
  if w.low < 4278190080 ∨ 4294967296 ≤ w.low then
    ⟨w.made ++ [(w.cache + w.low / 4294967296) % 256] ++ List.replicate (w.held - 1).toNat ((255 + w.low / 4294967296) % 256), w.low % 16777216 * 256, w.span, w.low / 16777216 % 256, 1⟩
  else ⟨w.made, w.low % 16777216 * 256, w.span, w.cache, w.held + 1⟩
structure WI (w : W) (s : Int) : Prop where
  oct : Oct w.made
  c0 : 0 ≤ w.cache
  c1 : w.cache < 256
  h1 : 1 ≤ w.held
  l0 : 0 ≤ w.low
  s0 : 0 < s
  ls : w.low + s ≤ 8589934592
  c255 : w.cache = 255 → w.low + s ≤ 4294967296
theorem WI.less {w : W} {s t : Int} (h : WI w s) (h0 : 0 < t) (h1 : t ≤ s) : WI w t := ⟨h.oct, h.c0, h.c1, h.h1, h.l0, h0, by have := h.ls; (first | lia | omega), fun k => by have := h.c255 k; (first | lia | omega)⟩
theorem sd0 {l : Int} (h0 : 0 ≤ l) (h : l < 4294967296) : l / 4294967296 = 0 := Int.ediv_eq_zero_of_lt h0 h
theorem sd1 {l : Int} (h0 : 4294967296 ≤ l) (h : l < 8589934592) : l / 4294967296 = 1 := by (first | lia | omega)
theorem shi (l : Int) : 0 ≤ l / 16777216 % 256 ∧ l / 16777216 % 256 < 256 := ⟨Int.emod_nonneg _ (by decide), Int.emod_lt_of_pos _ (by decide)⟩
theorem slo (l : Int) : 0 ≤ l % 16777216 * 256 ∧ l % 16777216 * 256 ≤ 4294967040 := by
  have h1 := Int.emod_nonneg l (show (16777216 : Int) ≠ 0 by decide)
  have h2 := Int.emod_lt_of_pos l (show (0 : Int) < 16777216 by decide)
  generalize l % 16777216 = x at h1 h2
  (first | lia | omega)
theorem sid0 {x l : Int} (h0 : 0 ≤ l) (h : l < 4294967296) : (x * 256 + l / 16777216 % 256) * 4294967296 + l % 16777216 * 256 = (x * 4294967296 + l) * 256 := by (first | lia | omega)
theorem sid1 {x l : Int} (h0 : 4294967296 ≤ l) (h : l < 8589934592) : ((x + 1) * 256 + l / 16777216 % 256) * 4294967296 + l % 16777216 * 256 = (x * 4294967296 + l) * 256 := by (first | lia | omega)
theorem sid2 {x l : Int} (h0 : 4278190080 ≤ l) (h : l < 4294967296) : (x * 256 + 255) * 4294967296 + l % 16777216 * 256 = (x * 4294967296 + l) * 256 := by (first | lia | omega)
theorem sc0 {l : Int} (h0 : 0 ≤ l) (h : l < 4278190080) : l / 16777216 % 256 ≠ 255 := by (first | lia | omega)
theorem sc1 {l s : Int} (h0 : 4294967296 ≤ l) (h : l + s ≤ 8589934592) (hc : l / 16777216 % 256 = 255) (hs : 0 < s) : l % 16777216 * 256 + s * 256 ≤ 4294967296 := by (first | lia | omega)
theorem sc2 {l s : Int} (h0 : 4278190080 ≤ l) (h : l + s ≤ 4294967296) (hs : 0 < s) : l % 16777216 * 256 + s * 256 ≤ 4294967296 := by (first | lia | omega)
theorem sls {l s : Int} (hs : s ≤ 16777216) : l % 16777216 * 256 + s * 256 ≤ 8589934592 := Int.le_trans (Int.add_le_add (slo l).2 (Int.mul_le_mul_of_nonneg_right hs (by decide : (0 : Int) ≤ 256))) (by decide)
theorem rep_k {m h : Nat} (hh : 1 ≤ h) : m + 1 + (h - 1) + 1 - 1 = m + h - 1 + 1 := by (first | lia | omega)
theorem oct_app {a : List Int} {c x : Int} {n : Nat} (h : Oct a) (hc : 0 ≤ c ∧ c < 256) (hx : 0 ≤ x ∧ x < 256) : Oct (a ++ [c] ++ List.replicate n x) := fun y hy => by
  rcases List.mem_append.mp hy with hy | hy
  · rcases List.mem_append.mp hy with hy | hy
    · exact h y hy
    · rw [List.mem_singleton.mp hy]; exact hc
  · rw [List.eq_of_mem_replicate hy]; exact hx
theorem shift_ok {w : W} {s : Int} (I : WI w s) (hs : s ≤ 16777216) : WI (shiftW w) (s * 256) ∧ (shiftW w).val = w.val * 256 ∧ (shiftW w).k = w.k + 1 ∧ (shiftW w).span = w.span := by
  obtain ⟨oct, c0, c1, h1, l0, s0, ls, c255⟩ := I
  obtain ⟨made, low, span, cache, held⟩ := w
  dsimp only at oct c0 c1 h1 l0 ls c255
  have s0' : 0 < s * 256 := Int.mul_pos s0 (by decide)
  have hheld : 1 ≤ held.toNat := Int.toNat_le_toNat h1
  have hr : (held - 1).toNat = held.toNat - 1 := by clear ls c255; (first | lia | omega)
  have hlt : low < 8589934592 := Int.lt_of_lt_of_le (Int.lt_add_of_pos_right low s0) ls
  by_cases hA : low < 4278190080
  · have hl : low < 4294967296 := Int.lt_of_lt_of_le hA (by decide)
    have e : shiftW ⟨made, low, span, cache, held⟩ = ⟨made ++ [cache] ++ List.replicate (held.toNat - 1) 255, low % 16777216 * 256, span, low / 16777216 % 256, 1⟩ := by
      unfold shiftW
      dsimp only
      rw [if_pos (.inl hA), sd0 l0 hl, Int.add_zero, Int.add_zero, hr, Int.emod_eq_of_lt c0 c1]; rfl
    rw [e]
    refine ⟨⟨oct_app oct ⟨c0, c1⟩ (by decide), (shi low).1, (shi low).2, Int.le_refl 1, (slo low).1, s0', sls hs, fun h => absurd h (sc0 l0 hA)⟩, ?_, ?_, rfl⟩
    · show num (made ++ [cache] ++ List.replicate (held.toNat - 1) 255 ++ [low / 16777216 % 256] ++ List.replicate 0 255) * 4294967296 + low % 16777216 * 256 = (num (made ++ [cache] ++ List.replicate (held.toNat - 1) 255) * 4294967296 + low) * 256
      rw [List.replicate_zero, List.append_nil, num_one]
      exact sid0 l0 hl
    · show (made ++ [cache] ++ List.replicate (held.toNat - 1) 255).length + 1 - 1 = made.length + held.toNat - 1 + 1
      rw [List.length_append, List.length_append, List.length_replicate]
      exact rep_k hheld
  · have hA' : 4278190080 ≤ low := Int.not_lt.mp hA
    by_cases hB : low < 4294967296
    · have e : shiftW ⟨made, low, span, cache, held⟩ = ⟨made, low % 16777216 * 256, span, cache, held + 1⟩ := if_neg (fun h => h.elim hA (Int.not_le.mpr hB))
      rw [e]
      have e1 : (held + 1).toNat = held.toNat + 1 := Int.toNat_add (Int.le_trans (by decide) h1) (by decide)
      refine ⟨⟨oct, c0, c1, Int.le_trans h1 (Int.le_add_of_nonneg_right (by decide)), (slo low).1, s0', sls hs, fun h => sc2 hA' (c255 h) s0⟩, ?_, ?_, rfl⟩
      · show num (made ++ [cache] ++ List.replicate ((held + 1).toNat - 1) 255) * 4294967296 + low % 16777216 * 256 = (num (made ++ [cache] ++ List.replicate (held.toNat - 1) 255) * 4294967296 + low) * 256
        rw [e1, show held.toNat + 1 - 1 = (held.toNat - 1) + 1 from (Nat.sub_add_cancel hheld).symm, List.replicate_succ', ← List.append_assoc, num_one]
        exact sid2 hA' hB
      · show made.length + (held + 1).toNat - 1 = made.length + held.toNat - 1 + 1
        rw [e1]
        exact (Nat.sub_add_cancel (Nat.le_trans hheld (Nat.le_add_left _ _))).symm
    · have hB' : 4294967296 ≤ low := Int.not_lt.mp hB
      have hcc : cache + 1 < 256 := by
        have : cache ≠ 255 := fun h => absurd (Int.lt_of_lt_of_le (Int.lt_add_of_pos_right low s0) (c255 h)) hB
        (first | lia | omega)
      have e : shiftW ⟨made, low, span, cache, held⟩ = ⟨made ++ [cache + 1] ++ List.replicate (held.toNat - 1) 0, low % 16777216 * 256, span, low / 16777216 % 256, 1⟩ := by
        unfold shiftW
        dsimp only
        rw [if_pos (.inr hB'), sd1 hB' hlt, hr, Int.emod_eq_of_lt (Int.le_trans c0 (Int.le_add_of_nonneg_right (by decide))) hcc]; rfl
      rw [e]
      refine ⟨⟨oct_app oct ⟨Int.le_trans c0 (Int.le_add_of_nonneg_right (by decide)), hcc⟩ (by decide), (shi low).1, (shi low).2, Int.le_refl 1, (slo low).1, s0', sls hs, fun h => sc1 hB' ls h s0⟩, ?_, ?_, rfl⟩
      · show num (made ++ [cache + 1] ++ List.replicate (held.toNat - 1) 0 ++ [low / 16777216 % 256] ++ List.replicate 0 255) * 4294967296 + low % 16777216 * 256 = (num (made ++ [cache] ++ List.replicate (held.toNat - 1) 255) * 4294967296 + low) * 256
        rw [List.replicate_zero, List.append_nil, num_one, num_carry]
        exact sid1 hB' hlt
      · show (made ++ [cache + 1] ++ List.replicate (held.toNat - 1) 0).length + 1 - 1 = made.length + held.toNat - 1 + 1
        rw [List.length_append, List.length_append, List.length_replicate]
        exact rep_k hheld

noncomputable def fillW (w : W) : W := if w.span < 16777216 then shiftW { w with span := w.span * 256 } else w
noncomputable def boundW (w : W) (m : Int) : Int := w.span / 2048 * m
noncomputable def midW (w : W) (m b : Int) : W := if b = 0 then { w with span := boundW w m } else { w with low := w.low + boundW w m, span := w.span - boundW w m }
noncomputable def bitW (w : W) (m b : Int) : W := fillW (midW w m b)
structure WJ (w : W) : Prop where
  wi : WI w w.span
  lo : 16777216 ≤ w.span
  hi : w.span ≤ 4294967295
noncomputable def w0 : W := ⟨[], 0, 4294967295, 0, 1⟩
theorem w0_ok : WJ w0 := ⟨⟨fun x hx => absurd hx List.not_mem_nil, by decide, by decide, by decide, by decide, by decide, by decide, fun h => absurd h (by decide)⟩, by decide, by decide⟩
theorem w0_val : w0.val = 0 := rfl
theorem bound_ok {w : W} {m : Int} (J : WJ w) (hm : V m) : 253952 ≤ boundW w m ∧ 253952 ≤ w.span - boundW w m := by
  have h1 := Int.mul_le_mul_of_nonneg_left hm.1 (show 0 ≤ w.span / 2048 by have := J.lo; (first | lia | omega))
  have h2 := Int.mul_le_mul_of_nonneg_left hm.2 (show 0 ≤ w.span / 2048 by have := J.lo; (first | lia | omega))
  have := J.lo
  unfold boundW
  generalize w.span / 2048 * m = x at h1 h2 ⊢
  (first | lia | omega)
/-- a bit: what lies between model and filling -/
theorem mid_ok {w : W} {m b : Int} (J : WJ w) (hm : V m) (hb : b = 0 ∨ b = 1) : WI (midW w m b) (midW w m b).span ∧ 253952 ≤ (midW w m b).span ∧ (midW w m b).span ≤ 4294967295 ∧ (midW w m b).k = w.k ∧
    w.val ≤ (midW w m b).val ∧ (midW w m b).val + (midW w m b).span ≤ w.val + w.span ∧ (b = 0 → (midW w m b).val = w.val ∧ (midW w m b).span = boundW w m) ∧ (b = 1 → (midW w m b).val = w.val + boundW w m ∧ (midW w m b).span = w.span - boundW w m) := by
  obtain ⟨b1, b2⟩ := bound_ok J hm
  have hi := J.hi
  obtain ⟨oct, c0, c1, h1, l0, s0, ls, c255⟩ := J.wi
  rcases hb with rfl | rfl
  · have e : midW w m 0 = { w with span := boundW w m } := rfl
    rw [e]
    refine ⟨⟨oct, c0, c1, h1, l0, by dsimp only; (first | lia | omega), by dsimp only; (first | lia | omega), fun h => by have := c255 h; dsimp only; (first | lia | omega)⟩, b1, by dsimp only; (first | lia | omega), rfl, Int.le_refl _, ?_, fun _ => ⟨rfl, rfl⟩, fun h => absurd h (by decide)⟩
    show w.val + boundW w m ≤ _
    (first | lia | omega)
  · have e : midW w m 1 = { w with low := w.low + boundW w m, span := w.span - boundW w m } := rfl
    have ev : (midW w m 1).val = w.val + boundW w m := by rw [e]; show num w.pend * 4294967296 + (w.low + boundW w m) = num w.pend * 4294967296 + w.low + boundW w m; (first | lia | omega)
    refine ⟨?_, ?_, ?_, rfl, by rw [ev]; (first | lia | omega), ?_, fun h => absurd h (by decide), fun _ => ⟨ev, rfl⟩⟩
    · rw [e]
      exact ⟨oct, c0, c1, h1, by dsimp only; (first | lia | omega), by dsimp only; (first | lia | omega), by dsimp only; (first | lia | omega), fun h => by have := c255 h; dsimp only; (first | lia | omega)⟩
    · rw [e]; exact b2
    · rw [e]; dsimp only; (first | lia | omega)
    · rw [ev]
      show w.val + boundW w m + (w.span - boundW w m) ≤ _
      (first | lia | omega)
theorem fill_ok {w : W} (I : WI w w.span) (h1 : 253952 ≤ w.span) (h2 : w.span ≤ 4294967295) :
    WJ (fillW w) ∧ ((fillW w).k = w.k ∧ fillW w = w ∧ 16777216 ≤ w.span ∨ (fillW w).k = w.k + 1 ∧ (fillW w).val = w.val * 256 ∧ (fillW w).span = w.span * 256 ∧ w.span < 16777216) := by
  unfold fillW
  split
  · refine Classical.byContradiction fun hG0 => ?_
    rename_i h
    have I' : WI { w with span := w.span * 256 } w.span := ⟨I.oct, I.c0, I.c1, I.h1, I.l0, I.s0, I.ls, I.c255⟩
    obtain ⟨a, b, c, d⟩ := shift_ok I' (by (first | lia | omega))
    refine hG0 ?_
    refine ⟨⟨by rw [d]; exact a, by rw [d]; dsimp only; (first | lia | omega), by rw [d]; dsimp only; (first | lia | omega)⟩, .inr ⟨c, b, d, h⟩⟩
  · exact ⟨⟨I, by (first | lia | omega), h2⟩, .inl ⟨rfl, rfl, by (first | lia | omega)⟩⟩
/-! a text -/
noncomputable def encStep (p : W × Int) (b : Int) : W × Int := (bitW p.1 p.2 b, nextM p.2 b)
noncomputable def encF (p : W × Int) (t : List Int) : W × Int := t.foldl encStep p
theorem enc_led : ∀ (t : List Int) (p : W × Int), (encF p t).2 = ledF p.2 t
  | [], p => rfl
  | b :: t, p => enc_led t (encStep p b)
theorem enc_ok : ∀ (t : List Int) (p : W × Int), WJ p.1 → V p.2 → B01 t → WJ (encF p t).1 ∧ V (encF p t).2 ∧
    ∃ e : Nat, (encF p t).1.k = p.1.k + e ∧ e ≤ t.length ∧ p.1.val * 256 ^ e ≤ (encF p t).1.val ∧ (encF p t).1.val + (encF p t).1.span ≤ (p.1.val + p.1.span) * 256 ^ e
  | [], p, J, hm, hb => ⟨J, hm, 0, rfl, Nat.le_refl _, by show p.1.val * 1 ≤ p.1.val; (first | lia | omega), by show p.1.val + p.1.span ≤ (p.1.val + p.1.span) * 1; (first | lia | omega)⟩
  | b :: t, p, J, hm, hb => by
    refine Classical.byContradiction fun hG0 => ?_
    obtain ⟨a1, a2, a3, a4, a5, a6, _, _⟩ := mid_ok J hm hb.cons.1
    obtain ⟨J', f⟩ := fill_ok a1 a2 a3
    have hm' := next_V hm hb.cons.1
    obtain ⟨r1, r2, e, r3, r4, r5, r6⟩ := enc_ok t (encStep p b) J' hm' hb.cons.2
    refine hG0 ?_
    have hp : (0 : Int) ≤ 256 ^ e := Int.le_of_lt (Int.pow_pos (by decide))
    refine ⟨r1, r2, ?_⟩
    rcases f with ⟨f1, f2, _⟩ | ⟨f1, f2, f3, _⟩
    · have hv : (encStep p b).1 = midW p.1 p.2 b := f2
      rw [hv] at r3 r5 r6
      refine ⟨e, by rw [← a4]; exact r3, by rw [List.length_cons]; (first | lia | omega), Int.le_trans (Int.mul_le_mul_of_nonneg_right a5 hp) r5, Int.le_trans r6 (Int.mul_le_mul_of_nonneg_right a6 hp)⟩
    · have hv : (encStep p b).1.val = (midW p.1 p.2 b).val * 256 := f2
      have hs : (encStep p b).1.span = (midW p.1 p.2 b).span * 256 := f3
      have hk : (encStep p b).1.k = p.1.k + 1 := by rw [← a4]; exact f1
      rw [hk] at r3
      rw [hv] at r5
      rw [hv, hs] at r6
      have e1 : ∀ x : Int, x * 256 ^ (e + 1) = x * 256 * 256 ^ e := fun x => by rw [Int.pow_succ, Int.mul_comm (256 ^ e) 256, Int.mul_assoc]
      refine ⟨e + 1, by show (encF (encStep p b) t).1.k = _; rw [r3]; (first | lia | omega), by rw [List.length_cons]; (first | lia | omega), ?_, ?_⟩
      · rw [e1]
        exact Int.le_trans (Int.mul_le_mul_of_nonneg_right (by (first | lia | omega)) hp) r5
      · rw [e1]
        exact Int.le_trans r6 (Int.mul_le_mul_of_nonneg_right (by (first | lia | omega)) hp)

/-! the end -/
noncomputable def doneW (w : W) : W := shiftW (shiftW (shiftW (shiftW (shiftW w))))
theorem shift_low (w : W) : (shiftW w).low = w.low % 16777216 * 256 := by unfold shiftW; split <;> rfl
theorem done_ok {w : W} (J : WJ w) : Oct (doneW w).made ∧ (doneW w).made.length = w.k + 5 ∧ num (doneW w).made = w.val ∧
    (∀ i, i < 5 → True) := by
  refine Classical.byContradiction fun hG0 => ?_
  have I0 := J.wi.less (t := 1) (by decide) (by have := J.lo; (first | lia | omega))
  obtain ⟨I1, v1, k1, _⟩ := shift_ok I0 (by decide)
  obtain ⟨I2, v2, k2, _⟩ := shift_ok (I1.less (t := 1) (by decide) (by decide)) (by decide)
  obtain ⟨I3, v3, k3, _⟩ := shift_ok (I2.less (t := 1) (by decide) (by decide)) (by decide)
  obtain ⟨I4, v4, k4, _⟩ := shift_ok (I3.less (t := 1) (by decide) (by decide)) (by decide)
  obtain ⟨I5, v5, k5, _⟩ := shift_ok (I4.less (t := 1) (by decide) (by decide)) (by decide)
  refine hG0 ?_
  have l4 : (shiftW (shiftW (shiftW (shiftW w)))).low = 0 := by
    rw [shift_low, shift_low, shift_low, shift_low]; (first | lia | omega)
  have e : doneW w = ⟨(shiftW (shiftW (shiftW (shiftW w)))).made ++ [(shiftW (shiftW (shiftW (shiftW w)))).cache % 256] ++ List.replicate ((shiftW (shiftW (shiftW (shiftW w)))).held - 1).toNat 255, 0, (shiftW (shiftW (shiftW (shiftW w)))).span, 0, 1⟩ := by
    unfold doneW
    generalize shiftW (shiftW (shiftW (shiftW w))) = u at l4 ⊢
    unfold shiftW
    rw [l4]
    simp
  refine ⟨I5.oct, ?_, ?_, fun _ _ => trivial⟩
  · have : (doneW w).k = (doneW w).made.length := by unfold W.k; rw [e]; dsimp only; rw [show (1 : Int).toNat = 1 from rfl]; (first | lia | omega)
    rw [← this]
    unfold doneW
    rw [k5, k4, k3, k2, k1]
  · have hv : (doneW w).val = num (doneW w).made * 256 * 4294967296 := by
      have hp : (doneW w).pend = (doneW w).made ++ [0] := by
        unfold W.pend
        have h1 : (doneW w).cache = 0 := by rw [e]
        have h2 : (doneW w).held = 1 := by rw [e]
        rw [h1, h2]; simp
      have hl : (doneW w).low = 0 := by rw [e]
      unfold W.val
      rw [hp, hl, num_one]; (first | lia | omega)
    have hv2 : (doneW w).val = w.val * 256 * 256 * 256 * 256 * 256 := by unfold doneW; rw [v5, v4, v3, v2, v1]
    (first | lia | omega)
theorem take_num {D : List Int} {k : Nat} {x : Int} (h : D[k]? = some x) : num (D.take (k + 1)) = num (D.take k) * 256 + x := by
  rw [List.take_add_one, h]; exact num_one _ _
theorem num_take_bounds {D : List Int} (h : Oct D) {p e : Nat} (hl : D.length = p + e) : num (D.take p) * 256 ^ e ≤ num D ∧ num D < (num (D.take p) + 1) * 256 ^ e := by
  have := numF_bounds (D.drop p) (num (D.take p)) fun x hx => h x (List.mem_of_mem_drop hx)
  rw [List.length_drop, show D.length - p = e by (first | lia | omega), ← num_append, List.take_append_drop] at this
  exact this
/-- where the writer's number lies, as far as it is read -/
theorem code_in {p : W × Int} {t : List Int} (J : WJ p.1) (hm : V p.2) (hb : B01 t) : p.1.val ≤ num ((doneW (encF p t).1).made.take (p.1.k + 5)) ∧ num ((doneW (encF p t).1).made.take (p.1.k + 5)) < p.1.val + p.1.span ∧
    p.1.k ≤ (encF p t).1.k := by
  obtain ⟨JF, _, e, hk, _, h1, h2⟩ := enc_ok t p J hm hb
  obtain ⟨d1, d2, d3, _⟩ := done_ok JF
  obtain ⟨g1, g2⟩ := num_take_bounds d1 (p := p.1.k + 5) (e := e) (by rw [d2, hk]; (first | lia | omega))
  rw [d3] at g1 g2
  have hp : (0 : Int) < 256 ^ e := Int.pow_pos (by decide)
  have hs := JF.lo
  refine ⟨?_, ?_, by (first | lia | omega)⟩
  · have : p.1.val * 256 ^ e < (num ((doneW (encF p t).1).made.take (p.1.k + 5)) + 1) * 256 ^ e := Int.lt_of_le_of_lt h1 g2
    have := Int.lt_of_mul_lt_mul_right this (Int.le_of_lt hp)
    (first | lia | omega)
  · refine Int.lt_of_mul_lt_mul_right (a := 256 ^ e) ?_ (Int.le_of_lt hp)
    (first | lia | omega)
/-- one bit read -/
theorem read_step {p : W × Int} {b : Int} {t D : List Int} (J : WJ p.1) (hm : V p.2) (hb : B01 (b :: t)) (hD : D = (doneW (encF p (b :: t)).1).made) :
    (b = 0 → num (D.take (p.1.k + 5)) - p.1.val < boundW p.1 p.2) ∧ (b = 1 → boundW p.1 p.2 ≤ num (D.take (p.1.k + 5)) - p.1.val) ∧
    (0 ≤ num (D.take (p.1.k + 5)) - (midW p.1 p.2 b).val ∧ num (D.take (p.1.k + 5)) - (midW p.1 p.2 b).val < 4294967296) ∧
    ((midW p.1 p.2 b).span < 16777216 → ∃ d, D[p.1.k + 5]? = some d ∧ 0 ≤ d ∧ d < 256 ∧ p.1.k + 5 < D.length ∧ (encStep p b).1.span = (midW p.1 p.2 b).span * 256 ∧ (encStep p b).1.k = p.1.k + 1 ∧
      (num (D.take (p.1.k + 5)) - (midW p.1 p.2 b).val) * 256 + d = num (D.take ((encStep p b).1.k + 5)) - (encStep p b).1.val) ∧
    (¬ (midW p.1 p.2 b).span < 16777216 → (encStep p b).1 = midW p.1 p.2 b ∧ (encStep p b).1.k = p.1.k) := by
  obtain ⟨a1, a2, a3, a4, a5, a6, a7, a8⟩ := mid_ok J hm hb.cons.1
  obtain ⟨J', f⟩ := fill_ok a1 a2 a3
  have hm' := next_V hm hb.cons.1
  have hF : encF p (b :: t) = encF (encStep p b) t := rfl
  obtain ⟨c1, c2, c3⟩ := code_in (p := encStep p b) (t := t) J' hm' hb.cons.2
  obtain ⟨JF, _⟩ := enc_ok t (encStep p b) J' hm' hb.cons.2
  obtain ⟨d1, d2, d3, _⟩ := done_ok JF
  rw [hF] at hD
  rw [← hD] at c1 c2 d1 d2
  have key : (midW p.1 p.2 b).val ≤ num (D.take (p.1.k + 5)) ∧ num (D.take (p.1.k + 5)) < (midW p.1 p.2 b).val + (midW p.1 p.2 b).span ∧
      ((midW p.1 p.2 b).span < 16777216 → ∃ d, D[p.1.k + 5]? = some d ∧ 0 ≤ d ∧ d < 256 ∧ p.1.k + 5 < D.length ∧ (encStep p b).1.span = (midW p.1 p.2 b).span * 256 ∧ (encStep p b).1.k = p.1.k + 1 ∧
      (num (D.take (p.1.k + 5)) - (midW p.1 p.2 b).val) * 256 + d = num (D.take ((encStep p b).1.k + 5)) - (encStep p b).1.val) ∧
      (¬ (midW p.1 p.2 b).span < 16777216 → (encStep p b).1 = midW p.1 p.2 b ∧ (encStep p b).1.k = p.1.k) := by
    rcases f with ⟨f1, f2, f3⟩ | ⟨f1, f2, f3, f4⟩
    · have hv : (encStep p b).1 = midW p.1 p.2 b := f2
      rw [hv, a4] at c1 c2
      exact ⟨c1, c2, fun h => by (first | lia | omega), fun _ => ⟨hv, by rw [hv, a4]⟩⟩
    · have hv : (encStep p b).1.val = (midW p.1 p.2 b).val * 256 := f2
      have hs : (encStep p b).1.span = (midW p.1 p.2 b).span * 256 := f3
      have hk : (encStep p b).1.k = p.1.k + 1 := by rw [← a4]; exact f1
      have hlt : p.1.k + 5 < D.length := by rw [d2]; (first | lia | omega)
      have hd : D[p.1.k + 5]? = some D[p.1.k + 5] := List.getElem?_eq_getElem hlt
      have ho := d1 _ (List.getElem_mem hlt)
      generalize D[p.1.k + 5] = d at hd ho
      rw [hk, hv, show p.1.k + 1 + 5 = (p.1.k + 5) + 1 by (first | lia | omega), take_num hd] at c1
      rw [hk, hv, hs, show p.1.k + 1 + 5 = (p.1.k + 5) + 1 by (first | lia | omega), take_num hd] at c2
      refine ⟨by (first | lia | omega), by (first | lia | omega), fun _ => ⟨d, hd, ho.1, ho.2, hlt, hs, hk, ?_⟩, fun h => absurd f4 h⟩
      rw [hk, hv, show p.1.k + 1 + 5 = (p.1.k + 5) + 1 by (first | lia | omega), take_num hd]
      (first | lia | omega)
  obtain ⟨k1, k2, k3, k4⟩ := key
  refine ⟨fun h => ?_, fun h => ?_, ⟨by (first | lia | omega), by (first | lia | omega)⟩, k3, k4⟩
  · obtain ⟨e1, e2⟩ := a7 h; (first | lia | omega)
  · obtain ⟨e1, e2⟩ := a8 h; (first | lia | omega)
/-- the first five octets -/
theorem read_start {t D : List Int} {m : Int} (hm : V m) (hb : B01 t) (hD : D = (doneW (encF (w0, m) t).1).made) : Oct D ∧ 5 ≤ D.length ∧ (∃ d1 d2 d3 d4, D.take 5 = [0, d1, d2, d3, d4]) ∧ 0 ≤ num (D.take 5) ∧ num (D.take 5) < 4294967295 ∧ num D = (encF (w0, m) t).1.val ∧ D.length = (encF (w0, m) t).1.k + 5 := by
  obtain ⟨c1, c2, c3⟩ := code_in (p := (w0, m)) (t := t) w0_ok hm hb
  obtain ⟨JF, _⟩ := enc_ok t (w0, m) w0_ok hm hb
  obtain ⟨d1, d2, d3, _⟩ := done_ok JF
  rw [← hD] at c1 c2 d1 d2 d3
  have c1 : 0 ≤ num (D.take 5) := c1
  have c2 : num (D.take 5) < 0 + 4294967295 := c2
  refine ⟨d1, by (first | lia | omega), ?_, c1, by (first | lia | omega), d3, d2⟩
  match D, d1, d2, c2 with
  | a :: b :: c :: d :: e :: r, d1, d2, c2 =>
    have o1 := d1 a (by simp)
    have o2 := d1 b (by simp)
    have o3 := d1 c (by simp)
    have o4 := d1 d (by simp)
    have o5 := d1 e (by simp)
    have c2 : ((((0 * 256 + a) * 256 + b) * 256 + c) * 256 + d) * 256 + e < 0 + 4294967295 := c2
    obtain rfl : a = 0 := by (first | lia | omega)
    exact ⟨b, c, d, e, rfl⟩
theorem bits_len {t : List Int} {m : Int} (hm : V m) (hb : B01 t) : (encF (w0, m) t).1.k ≤ t.length := by
  obtain ⟨_, _, e, hk, he, _⟩ := enc_ok t (w0, m) w0_ok hm hb
  have : (encF (w0, m) t).1.k = 0 + e := hk
  (first | lia | omega)
theorem held_k {w : W} {s : Int} (I : WI w s) : w.held ≤ w.k + 1 := by have := I.h1; unfold W.k; (first | omega | lia)

/-- F turns of the first k have unlike models: those ahead of F -/
noncomputable def FP (lo hi : Int) (text : List Int) (k F : Nat) : Prop := F ≤ k ∧ ∀ i, i < k → (i < F ↔ ledF lo (text.take i) ≠ ledF hi (text.take i))
theorem led_take {m x : Int} {text : List Int} {k : Nat} (h : text[k]? = some x) : ledF m (text.take (k + 1)) = nextM (ledF m (text.take k)) x := by unfold ledF; rw [foldl_take h]
theorem enc_take {p : W × Int} {x : Int} {text : List Int} {k : Nat} (h : text[k]? = some x) : encF p (text.take (k + 1)) = encStep (encF p (text.take k)) x := by unfold encF; rw [foldl_take h]
theorem fp_zero (lo hi : Int) (text : List Int) : FP lo hi text 0 0 := ⟨Nat.le_refl _, fun i hi => absurd hi (Nat.not_lt_zero _)⟩
theorem led_stay {lo hi : Int} {text : List Int} {i : Nat} (e : ledF lo (text.take i) = ledF hi (text.take i)) : ∀ d, ledF lo (text.take (i + d)) = ledF hi (text.take (i + d))
  | 0 => e
  | d + 1 => by
    have ih := led_stay e d
    cases h : text[i + d]? with
    | none =>
      have hl : text.length ≤ i + d := by rw [List.getElem?_eq_none_iff] at h; exact h
      rw [List.take_of_length_le (by (first | lia | omega) : text.length ≤ i + (d + 1))]
      rw [List.take_of_length_le hl] at ih
      exact ih
    | some x => rw [show i + (d + 1) = i + d + 1 by (first | lia | omega), led_take h, led_take h, ih]
theorem fp_step {lo hi : Int} {text : List Int} {k F : Nat} (h : FP lo hi text k F) : FP lo hi text (k + 1) (F + (if ledF lo (text.take k) ≠ ledF hi (text.take k) then 1 else 0)) := by
  obtain ⟨h1, h2⟩ := h
  by_cases hc : ledF lo (text.take k) = ledF hi (text.take k)
  · rw [if_neg (by simpa using hc), Nat.add_zero]
    refine ⟨by (first | lia | omega), fun i hi => ?_⟩
    by_cases hik : i < k
    · exact h2 i hik
    · obtain rfl : i = k := by (first | lia | omega)
      exact ⟨fun hlt => by (first | lia | omega), fun hne => absurd hc hne⟩
  · rw [if_pos hc]
    have hF : F = k := by
      rcases Nat.lt_or_ge F k with hlt | hge
      · have hn := (h2 F hlt)
        have he : ledF lo (text.take F) = ledF hi (text.take F) := Classical.byContradiction fun hne => absurd (hn.mpr hne) (Nat.lt_irrefl _)
        have := led_stay he (k - F)
        rw [show F + (k - F) = k by (first | lia | omega)] at this
        exact absurd this hc
      · (first | lia | omega)
    subst hF
    refine ⟨Nat.le_refl _, fun i hi => ⟨fun _ => ?_, fun _ => hi⟩⟩
    by_cases hik : i < F
    · exact (h2 i hik).mp hik
    · obtain rfl : i = F := by (first | lia | omega)
      exact hc
theorem fp_eq {lo hi : Int} {text : List Int} {F k : Nat} (h : FP lo hi text text.length F) (hk : F ≤ k) (hkl : k < text.length) : ledF lo (text.take k) = ledF hi (text.take k) :=
  Classical.byContradiction fun hne => by have := (h.2 k hkl).mpr hne; (first | lia | omega)
theorem fp_end {lo hi : Int} {text : List Int} {F : Nat} (h : FP lo hi text text.length F) (hF : F < text.length) : ledF lo text = ledF hi text := by
  have e := fp_eq h (Nat.le_refl F) hF
  have := led_stay e (text.length - F)
  rw [show F + (text.length - F) = text.length by (first | lia | omega), List.take_length] at this
  exact this
theorem B01.take {t : List Int} (h : B01 t) (k : Nat) : B01 (t.take k) := fun b hb => h b (List.mem_of_mem_take hb)
theorem B01.drop {t : List Int} (h : B01 t) (k : Nat) : B01 (t.drop k) := fun b hb => h b (List.mem_of_mem_drop hb)

theorem set_at {σ : St} {j : Nat} {o o' : AO} (h : σ[j]? = some o) : (σ.set j o')[j]? = some o' := List.getElem?_set_self (List.getElem?_eq_some_iff.mp h).1
theorem put_item {σ : St} {n : Nat} {xs : List Int} {i v : Int} (h1 : σ[n]? = some (.list xs)) (h2 : 0 ≤ i ∧ i < xs.length ∧ xs.length ≤ lineOf) : putItem σ (.lab n) i v = some (σ.set n (.list (xs.set i.toNat v))) := by
  unfold putItem; simp only [h1]; exact if_pos h2
theorem parts_at {k : Nat} {x : Int} (h : parts[k]? = some x) : 0 < x ∧ x ≤ 63 := by
  unfold parts at h
  rw [List.getElem?_map, Option.map_eq_some_iff] at h
  obtain ⟨y, h1, h2⟩ := h
  have := List.mem_range.mp (List.mem_of_getElem? h1)
  (first | lia | omega)
section
variable {N pr : List Int} {n : Nat} {σ : St}
theorem sp_exact {m b : Int} (hm : 31 ≤ m ∧ m ≤ 2017) (hb : b = 0 ∨ b = 1) (h : Cl σ) : orc N pr (n + 2) 3528 [.int m, .int b] σ = some (.int (priceOf (if b = 0 then m else 2048 - m)), σ) := by
  apply fn_eq rfl rfl rfl
  apply wg_next
  · repeat' (first | with_reducible (first | exact evs_nil | apply evs_cons | apply ev_call | apply ex_exp) | exact ev_var rfl)
    exact sp_need_model hm h
  · apply wg_next
    · repeat' (first | with_reducible (first | exact evs_nil | apply evs_cons | apply ev_call | apply ex_exp) | exact ev_var rfl)
      exact sp_need_bit hb h
    · apply wg_ret
      · apply ev_call
        · apply evs_cons
          · show _ = some (AV.int (if b = 0 then m else 2048 - m), σ)
            by_cases hb : b = 0
            · apply ev_ite_t
              · repeat' (first | with_reducible (first | exact ev_int | apply ev_chain | apply evc_one | exact cmp_int) | exact ev_var rfl)
              · simp [intCmp, hb]
              · rw [if_pos hb]; repeat' (first | exact ev_var rfl)
            · apply ev_ite_f
              · repeat' (first | with_reducible (first | exact ev_int | apply ev_chain | apply evc_one | exact cmp_int) | exact ev_var rfl)
              · simp [intCmp, hb]
              · rw [if_neg hb]; repeat' (first | with_reducible (first | exact ev_glob | apply ev_bin | apply bin_int) | exact ev_var rfl | exact @rfl (Option Int) _)
          · exact evs_nil
        · exact sp_price_of (by split <;> (first | lia | omega)) h
      · exact leave_int (cut_self h)
theorem sp_turns {lack : Int} (h : Cl σ) : orc N pr (n + 1) 3561 [.int lack] σ = some (.int (turnsF lack), σ) := by
  apply fn_eq rfl rfl rfl
  apply wg_next
  · repeat' (first | with_reducible (first | exact ev_int | apply ex_asg))
  · apply wg_for (l := parts) (on := none) (fun k η τ => τ = σ ∧ η 0 = some (.int ((parts.take k).foldl tstep (lack, 0)).1) ∧ η 1 = some (.int ((parts.take k).foldl tstep (lack, 0)).2))
    · repeat' (first | with_reducible (first | exact ev_int | apply ev_neg | apply evi_range3) | exact @rfl (Option (List Int)) _)
    · exact ⟨rfl, rfl, rfl⟩
    · intro _ _ _ _; rfl
    · intro k x η τ hk ⟨h2, h0, h1⟩
      have hx := parts_at hk
      rw [foldl_take hk]
      generalize (parts.take k).foldl tstep (lack, 0) = p at h0 h1 ⊢
      subst h2
      apply wg_iff
      · apply ev_chain
        · exact ev_var h0
        · apply evc_one
          · apply ev_bin ev_int (ev_var rfl) (bin_int (ib_mul (.inl (by decide))))
          · exact cmp_int
      · intro hc
        have hc : 32 * x ≤ p.1 := by simpa [intCmp] using hc
        apply wg_next
        · apply ex_asg
          apply ev_bin
          · apply ev_bin
            · apply ev_bin
              · exact ev_var h0
              · apply ev_bin ev_int (ev_var rfl) (bin_int (ib_mul (.inl (by decide))))
              · exact bin_int rfl
            · exact ev_var rfl
            · exact bin_int (ib_fdiv (by (first | omega | lia)))
          · exact ev_int
          · exact bin_int rfl
        · apply wg_next
          · apply ex_asgs
            apply evs_cons
            · apply ev_bin
              · exact ev_var h1
              · exact ev_var rfl
              · exact bin_int rfl
            · apply evs_cons
              · apply ev_bin
                · exact ev_var h0
                · apply ev_bin (ev_var rfl) (ev_var rfl) (bin_int (ib_mul (.inl (by (first | omega | lia)))))
                · exact bin_int rfl
              · exact evs_nil
          · apply wg_nil
            rw [tstep, if_pos hc]
            exact ⟨rfl, rfl, rfl, rfl⟩
      · intro hc
        have hc : ¬ 32 * x ≤ p.1 := by simpa [intCmp] using hc
        apply wg_nil
        rw [tstep, if_neg hc]
        exact ⟨rfl, rfl, h0, h1⟩
    · intro η' σ' ⟨h2, h0, h1⟩
      subst h2
      rw [List.take_length] at h1
      apply wg_ret
      · exact ev_var h1
      · exact leave_int (cut_self h)
theorem sp_led {m : Int} {j : Nat} {bs : List Int} (hj : σ[j]? = some (.list bs)) (h : Cl σ) : orc N pr (n + 2) 3568 [.int m, .lab j] σ = some (.int (ledF m bs), σ) := by
  apply fn_eq rfl rfl rfl
  apply wg_for (l := bs) (on := some j) (fun k η τ => τ = σ ∧ η 0 = some (.int (ledF m (bs.take k))))
  · apply evi_elems
    · exact ev_var rfl
    · exact hj
  · exact ⟨rfl, rfl⟩
  · intro k η τ ⟨h2, _⟩; subst h2; simp [isL, hj]
  · intro k x η τ hk ⟨h2, h0⟩
    subst h2
    apply wg_next
    · apply ex_asg
      apply ev_call
      · apply evs_cons
        · exact ev_var h0
        · apply evs_cons
          · exact ev_var rfl
          · exact evs_nil
      · exact sp_next h
    · apply wg_nil
      refine ⟨rfl, rfl, ?_⟩
      have e : ledF m (bs.take (k + 1)) = nextM (ledF m (bs.take k)) x := by unfold ledF; rw [foldl_take hk]
      rw [e]; rfl
  · intro η' σ' ⟨h2, h0⟩
    subst h2
    rw [List.take_length] at h0
    apply wg_ret
    · exact ev_var h0
    · exact leave_int (cut_self h)
theorem sp_take {j : Nat} {d m many : Int} (hj : σ[j]? = some (.list [d, m])) (hm : 0 < many ∧ many < 1000000) (h : Cl σ) :
    ∃ r, orc N pr (n + 1) 3542 [.lab j, .int many] σ = some r ∧ ∃ t d' m', 0 ≤ t ∧ t < many ∧ r = (.int t, σ.set j (.list [d', m'])) := by
  have cl : ∀ l, Cl (σ.set j (.list l)) := fun l => h.set rfl
  have len : σ.length = (σ.set j (.list [d, m])).length := by rw [List.length_set]
  apply fn_ex rfl rfl rfl
  apply wg_iff
  · apply ev_chain
    · apply ev_sub
      · exact ev_var rfl
      · exact ev_int
      · exact sub_lab hj rfl
    · apply evc_one ev_int cmp_int
  · intro hc
    apply wg_next
    · apply ex_asg
      apply ev_bin
      · apply ev_sub
        · exact ev_var rfl
        · exact ev_int
        · exact sub_lab hj rfl
      · exact ev_var rfl
      · exact bin_int (ib_mod hm.1)
    · apply wg_next
      · apply ex_setItem
        · apply ev_bin
          · apply ev_sub
            · exact ev_var rfl
            · exact ev_int
            · exact sub_lab hj rfl
          · exact ev_var rfl
          · exact bin_int (ib_fdiv (by (first | omega | lia)))
        · exact ev_var rfl
        · exact ev_int
        · exact put_item hj ⟨by decide, by show (_ : Int) < 2; decide, by show 2 ≤ 1048576; decide⟩
      · apply wg_ret
        · exact ev_var rfl
        · refine ⟨_, leave_int (σ1 := σ.set j (.list [d / many, m])) ?_, _, d / many, m, Int.emod_nonneg _ (by (first | omega | lia)), Int.emod_lt_of_pos _ hm.1, rfl⟩
          have := cut_self (cl [d / many, m])
          rwa [List.length_set] at this
  · intro hc
    apply wg_next
    · apply ex_setItem
      · apply ev_bin
        · apply ev_bin
          · apply ev_sub
            · exact ev_var rfl
            · exact ev_int
            · exact sub_lab hj rfl
          · exact ev_int
          · exact bin_int (ib_mul (.inr (by decide)))
        · exact ev_int
        · exact bin_int (ib_mod (by decide))
      · exact ev_var rfl
      · exact ev_int
      · exact put_item hj ⟨by decide, by show (_ : Int) < 2; decide, by show 2 ≤ 1048576; decide⟩
    · apply wg_ret
      · apply ev_bin
        · apply ev_bin
          · apply ev_sub
            · exact ev_var rfl
            · exact ev_int
            · exact sub_lab (set_at hj) rfl
          · exact ev_int
          · exact bin_int (ib_fdiv (by decide))
        · exact ev_var rfl
        · exact bin_int (ib_mod hm.1)
      · refine ⟨_, leave_int (σ1 := σ.set j (.list [d, m * 48271 % 2147483647])) ?_, _, d, m * 48271 % 2147483647, Int.emod_nonneg _ (by (first | omega | lia)), Int.emod_lt_of_pos _ hm.1, rfl⟩
        have := cut_self (cl [d, m * 48271 % 2147483647])
        rwa [List.length_set] at this
theorem sp_jar (hN : N.length ≤ 63) : ∃ r, orc N pr (n + 1) 3535 [.script] [] = some r ∧ ∃ d m, r = (.lab 0, [.list [d, m]]) := by
  have hl : lineOf = 1048576 := rfl
  have ht : (N.take 40).length ≤ lineOf := by rw [List.length_take]; (first | lia | omega)
  apply fn_ex rfl rfl rfl
  apply wg_next
  · repeat' (first | with_reducible (first | exact ev_int | exact evs_nil | apply evs_cons | apply ex_asgs))
  · apply wg_for (l := N.take 40) (on := some 0) (fun k η τ => τ = [.list (N.take 40)] ∧ ∃ d m, η 2 = some (.int d) ∧ η 3 = some (.int m))
    · apply evi_elems
      · apply ev_upto
        · exact ev_var rfl
        · exact ev_int
        · decide
        · exact cut_script (by (first | lia | omega)) (new_list ht)
      · rfl
    · exact ⟨rfl, _, _, rfl, rfl⟩
    · intro k η τ ⟨h2, _⟩; subst h2; simp [isL]
    · intro k x η τ hk ⟨h2, d, m, h0, h1⟩
      apply wg_iff
      · apply ev_chain
        · apply ev_b1
          · exact ev_var rfl
          · exact b1_abs
        · apply evc_one
          · apply ev_bin ev_int ev_int (bin_int ib_pow18)
          · exact cmp_int
      · intro hc
        apply wg_next
        · apply ex_asg
          apply ev_bin
          · apply ev_bin
            · exact ev_var h0
            · apply ev_b1
              · exact ev_var rfl
              · exact b1_abs
            · exact bin_int rfl
          · apply ev_bin ev_int ev_int (bin_int ib_pow18)
          · exact bin_int rfl
        · exact wg_nil ⟨rfl, h2, _, _, rfl, h1⟩
      · intro hc
        apply wg_next
        · apply ex_asg
          apply ev_bin
          · exact ev_int
          · apply ev_bin
            · apply ev_bin
              · apply ev_bin
                · exact ev_var h1
                · exact ev_int
                · exact bin_int (ib_mul (.inr (by decide)))
              · exact ev_var rfl
              · exact bin_int rfl
            · exact ev_int
            · exact bin_int (ib_mod (by decide))
          · exact bin_int rfl
        · exact wg_nil ⟨rfl, h2, _, _, h0, rfl⟩
    · intro η' σ' ⟨h2, d, m, h0, h1⟩
      subst h2
      apply wg_ret
      · apply ev_list
        · apply evs_cons
          · exact ev_var h0
          · apply evs_cons
            · exact ev_var h1
            · exact evs_nil
        · rfl
        · exact new_list (by show 2 ≤ 1048576; decide)
      · exact ⟨_, rfl, d, m, rfl⟩
end

theorem sort2 {x y : Int} (hx : 31 ≤ x ∧ x ≤ 2017) (hy : 31 ≤ y ∧ y ≤ 2017) : ∃ lo hi, [x, y].mergeSort (fun a b => decide (a ≤ b)) = [lo, hi] ∧ 31 ≤ lo ∧ lo ≤ hi ∧ hi ≤ 2017 := by
  have hp := List.mergeSort_perm [x, y] (fun a b => decide (a ≤ b))
  have hs := List.pairwise_mergeSort (le := fun (a b : Int) => decide (a ≤ b)) (fun a b c h1 h2 => by simp at *; (first | lia | omega)) (fun a b => by simp; (first | lia | omega)) [x, y]
  generalize [x, y].mergeSort (fun a b => decide (a ≤ b)) = l at hp hs
  match l, hp.length_eq with
  | [lo, hi], _ =>
    have m1 : lo ∈ [x, y] := hp.mem_iff.mp List.mem_cons_self
    have m2 : hi ∈ [x, y] := hp.mem_iff.mp (List.mem_cons_of_mem _ List.mem_cons_self)
    simp only [List.mem_cons, List.not_mem_nil, or_false] at m1 m2
    have h3 : lo ≤ hi := by simpa using hs
    exact ⟨lo, hi, rfl, by (first | lia | omega), h3, by (first | lia | omega)⟩
section
variable {N pr : List Int} {n : Nat}
theorem take0 {d m many : Int} {r : St} (hm : 0 < many ∧ many < 1000000) (h : Cl (.list [d, m] :: r)) : ∃ t d' m', (0 ≤ t ∧ t < many) ∧ Cl (.list [d', m'] :: r) ∧ orc N pr (n + 1) 3542 [.lab 0, .int many] (.list [d, m] :: r) = some (.int t, .list [d', m'] :: r) := by
  refine Classical.byContradiction fun hG0 => ?_
  obtain ⟨_, e, t, d', m', h1, h2, rfl⟩ := sp_take (N := N) (pr := pr) (n := n) (j := 0) (σ := .list [d, m] :: r) rfl hm h
  refine hG0 ?_
  exact ⟨t, d', m', ⟨h1, h2⟩, h.set (i := 0) (o := .list [d', m']) rfl, e⟩
theorem cl1 {l : List Int} : Cl [.list l] := rfl
theorem cl2 {l k : List Int} : Cl [.list l, .list k] := rfl
theorem cl3 {l k j : List Int} : Cl [.list l, .list k, .list j] := rfl
theorem two_le : 2 ≤ lineOf := by decide
theorem sp_models {d m side : Int} : ∃ r, orc N pr (n + 2) 3549 [.lab 0, .int side] [.list [d, m]] = some r ∧ ∃ d' m' lo hi, 31 ≤ lo ∧ lo ≤ hi ∧ hi ≤ 2017 ∧ r = (.lab 1, [.list [d', m'], .list [lo, hi]]) := by
  refine Classical.byContradiction fun hG0 => ?_
  have tail : ∀ (η : En) (r : St) (k : Nat) (x y d' m' : Int), η 3 = some (.lab k) → (AO.list [d', m'] :: r)[k]? = some (.list [x, y]) → 31 ≤ x ∧ x ≤ 2017 → 31 ≤ y ∧ y ≤ 2017 →
      Wg (orc N pr (n + 1)) N pr (.cons (.ret (.b1 .sorted (.var 3))) .nil) η (.list [d', m'] :: r) fun fl _ τ => ∃ r, leaveF false 1 (flv fl) τ = some r ∧ ∃ d' m' lo hi, 31 ≤ lo ∧ lo ≤ hi ∧ hi ≤ 2017 ∧ r = (.lab 1, [.list [d', m'], .list [lo, hi]]) := by
    intro η r k x y d' m' h3 hk hx hy
    obtain ⟨lo, hi, e, b1, b2, b3⟩ := sort2 hx hy
    apply wg_ret
    · apply ev_b1
      · exact ev_var h3
      · apply b1_sorted hk (by show 2 < 64; decide)
        rw [e]
        exact new_list two_le
    · refine ⟨_, leave_lab (l := [lo, hi]) (σ1 := [.list [d', m']]) (Nat.le_add_left _ _) ?_ ?_, d', m', lo, hi, b1, b2, b3, rfl⟩
      · rw [List.getElem?_append_right (Nat.le_refl _), Nat.sub_self]; rfl
      · exact cut_app (σ := [.list [d', m']]) rfl rfl
  obtain ⟨t0, d0, m0, b0, c0, e0⟩ := take0 (N := N) (pr := pr) (n := n) (many := 4) (by decide) (cl1 (l := [d, m]))
  refine hG0 ?_
  apply fn_ex rfl rfl rfl
  apply wg_next
  · repeat' (first | with_reducible (first | exact ev_int | exact evs_nil | apply evs_cons | apply ev_call | apply ex_asg | (apply Eq.symm; apply Eq.symm; assumption)) | exact ev_var rfl)
  · apply wg_iff
    · repeat' (first | with_reducible (first | exact ev_int | apply ev_chain | apply evc_one | exact cmp_int) | exact ev_var rfl)
    · intro _
      refine Classical.byContradiction fun hG0 => ?_
      refine Classical.byContradiction fun hG1 => ?_
      obtain ⟨t1, d1, m1, b1, c1, e1⟩ := take0 (N := N) (pr := pr) (n := n) (many := 1987) (by decide) c0
      obtain ⟨t2, d2, m2, b2, c2, e2⟩ := take0 (N := N) (pr := pr) (n := n) (many := 1987) (by decide) c1
      refine hG1 ?_
      refine hG0 ?_
      apply wg_next
      · repeat' (first | with_reducible (first | exact ev_int | exact evs_nil | apply ev_bin | apply evs_cons | apply ev_call | apply ev_list | apply ex_asg | (apply Eq.symm; apply Eq.symm; assumption) | apply bin_int | apply new_list) | exact ev_var rfl | exact @rfl (Option Int) _ | exact @rfl (Option (List Int)) _ | exact Nat.le_of_ble_eq_true rfl)
      · exact tail _ _ 1 (31 + t1) (31 + t2) _ _ rfl rfl (by (first | lia | omega)) (by (first | lia | omega))
    · intro _
      apply wg_iff
      · repeat' (first | with_reducible (first | exact ev_int | apply ev_chain | apply evc_one | exact cmp_int) | exact ev_var rfl)
      · intro _
        refine Classical.byContradiction fun hG1 => ?_
        refine Classical.byContradiction fun hG2 => ?_
        obtain ⟨t1, d1, m1, b1, c1, e1⟩ := take0 (N := N) (pr := pr) (n := n) (many := 70) (by decide) c0
        obtain ⟨t2, d2, m2, b2, c2, e2⟩ := take0 (N := N) (pr := pr) (n := n) (many := 70) (by decide) c1
        refine hG2 ?_
        refine hG1 ?_
        apply wg_next
        · repeat' (first | with_reducible (first | exact ev_int | exact evs_nil | apply ev_bin | apply evs_cons | apply ev_call | apply ev_list | apply ex_asg | (apply Eq.symm; apply Eq.symm; assumption) | apply bin_int | apply new_list) | exact ev_var rfl | exact @rfl (Option Int) _ | exact @rfl (Option (List Int)) _ | exact Nat.le_of_ble_eq_true rfl)
        · apply wg_iff
          · repeat' (first | with_reducible (first | exact ev_int | apply ev_chain | apply evc_one | exact cmp_int) | exact ev_var rfl)
          · intro _
            apply wg_next
            · repeat' (first | with_reducible (first | exact ev_int | exact evs_nil | apply ev_bin | apply evs_cons | apply ev_sub | apply ev_list | apply ex_asg | apply bin_int | apply new_list | apply sub_lab) | exact ev_var rfl | exact @rfl (Option Int) _ | exact @rfl (Option (List Int)) _ | exact @rfl (Option AO) _ | exact Nat.le_of_ble_eq_true rfl)
            · exact tail _ _ 2 (2048 - (31 + t1)) (2048 - (31 + t2)) _ _ rfl rfl (by (first | lia | omega)) (by (first | lia | omega))
          · intro _
            exact tail _ _ 1 (31 + t1) (31 + t2) _ _ rfl rfl (by (first | lia | omega)) (by (first | lia | omega))
      · intro _
        apply wg_iff
        · repeat' (first | with_reducible (first | exact ev_int | apply ev_chain | apply evc_one | exact cmp_int) | exact ev_var rfl)
        · intro _
          refine Classical.byContradiction fun hG2 => ?_
          refine Classical.byContradiction fun hG3 => ?_
          obtain ⟨t1, d1, m1, b1, c1, e1⟩ := take0 (N := N) (pr := pr) (n := n) (many := 63) (by decide) c0
          obtain ⟨t2, d2, m2, b2, c2, e2⟩ := take0 (N := N) (pr := pr) (n := n) (many := 2) (by decide) c1
          refine hG3 ?_
          refine hG2 ?_
          apply wg_next
          · repeat' (first | with_reducible (first | exact ev_int | exact evs_nil | apply ev_bin | apply evs_cons | apply ev_call | apply ex_asg | (apply Eq.symm; apply Eq.symm; assumption) | apply bin_int | apply ib_mul) | exact ev_var rfl | exact @rfl (Option Int) _ | exact Or.inl (by decide))
          · apply wg_next
            · repeat' (first | with_reducible (first | exact ev_int | exact evs_nil | apply ev_bin | apply evs_cons | apply ev_call | apply ev_list | apply ex_asg | (apply Eq.symm; apply Eq.symm; assumption) | apply bin_int | apply ib_mul | apply new_list) | exact ev_var rfl | exact @rfl (Option Int) _ | exact @rfl (Option (List Int)) _ | exact Nat.le_of_ble_eq_true rfl | exact Or.inl (by decide))
            · exact tail _ _ 1 (32 + 32 * t1) (32 + 32 * t1 + 1 - 2 * t2) _ _ rfl rfl (by (first | lia | omega)) (by (first | lia | omega))
        · intro _
          refine Classical.byContradiction fun hG3 => ?_
          refine Classical.byContradiction fun hG4 => ?_
          obtain ⟨t1, d1, m1, b1, c1, e1⟩ := take0 (N := N) (pr := pr) (n := n) (many := 5) (by decide) c0
          obtain ⟨t2, d2, m2, b2, c2, e2⟩ := take0 (N := N) (pr := pr) (n := n) (many := 5) (by decide) c1
          refine hG4 ?_
          refine hG3 ?_
          apply wg_next
          · repeat' (first | with_reducible (first | exact ev_int | exact evs_nil | apply ev_bin | apply evs_cons | apply ev_call | apply ev_list | apply ex_asg | (apply Eq.symm; apply Eq.symm; assumption) | apply bin_int | apply new_list) | exact ev_var rfl | exact @rfl (Option Int) _ | exact @rfl (Option (List Int)) _ | exact Nat.le_of_ble_eq_true rfl)
          · exact tail _ _ 1 (31 + t1) (2017 - t2) _ _ rfl rfl (by (first | lia | omega)) (by (first | lia | omega))
theorem sp_bits {d m most : Int} {ml : List Int} (hm : most = 30 ∨ most = 10) : ∃ r, orc N pr (n + 2) 3554 [.lab 0, .int most] [.list [d, m], .list ml] = some r ∧
    ∃ d' m' bs, (∀ b ∈ bs, b = 0 ∨ b = 1) ∧ 3 ≤ bs.length ∧ bs.length ≤ 30 ∧ r = (.lab 2, [.list [d', m'], .list ml, .list bs]) := by
  refine Classical.byContradiction fun hG0 => ?_
  have hl : lineOf = 1048576 := rfl
  obtain ⟨t0, d0, m0, b0, c0, e0⟩ := take0 (N := N) (pr := pr) (n := n) (many := most - 2) (by (first | lia | omega)) (cl2 (l := [d, m]) (k := ml))
  obtain ⟨t1, d1, m1, b1, c1, e1⟩ := take0 (N := N) (pr := pr) (n := n) (many := 3) (by decide) c0
  refine hG0 ?_
  have hlen : ((List.range (3 + t0).toNat).map fun (k : Nat) => (k : Int)).length = (3 + t0).toNat := by rw [List.length_map, List.length_range]
  apply fn_ex rfl rfl rfl
  apply wg_next
  · repeat' (first | with_reducible (first | exact ev_int | exact evs_nil | apply ev_bin | apply evs_cons | apply ev_call | apply ex_asg | (apply Eq.symm; apply Eq.symm; assumption) | apply bin_int) | exact ev_var rfl | exact @rfl (Option Int) _)
  · apply wg_iff
    · repeat' (first | with_reducible (first | exact ev_int | exact evs_nil | apply ev_chain | apply evc_one | apply evs_cons | apply ev_call | (apply Eq.symm; apply Eq.symm; assumption) | exact cmp_int) | exact ev_var rfl)
    · intro _
      obtain ⟨acc, τ, e, d2, m2, rfl, hk, hb, _⟩ := comp0 (elt := fun v τ => ev (orc N pr (n + 1)) N pr (.call 3542 (.cons (.var 0) (.cons (.int 2) .nil))) (upd (fun i => if [0].contains i then (upd (enter [.lab 0, .int most]) 2 (.int (3 + t0))) i else none) 5 v) τ)
        (n := 2) (ok := fun τ => isL τ none ((List.range (3 + t0).toNat).map fun (k : Nat) => (k : Int))) (l := (List.range (3 + t0).toNat).map fun (k : Nat) => (k : Int)) (σ := [.list [d1, m1], .list ml, .list []])
        (fun k acc τ => ∃ d2 m2, τ = [.list [d2, m2], .list ml, .list acc] ∧ acc.length = k ∧ (∀ b ∈ acc, b = 0 ∨ b = 1) ∧ k ≤ 30) ⟨d1, m1, rfl, rfl, fun b hb => absurd hb List.not_mem_nil, by decide⟩ (fun _ _ _ _ => rfl)
        (fun k acc τ ⟨d2, m2, h1, h2, h3, h4⟩ => by subst h1; exact ⟨rfl, by (first | lia | omega)⟩) fun k x acc τ hk ⟨d2, m2, h1, h2, h3, h4⟩ => by
          subst h1
          have hk : k < _ := (List.getElem?_eq_some_iff.mp hk).1
          rw [hlen] at hk
          obtain ⟨t3, d3, m3, b3, c3, e3⟩ := take0 (N := N) (pr := pr) (n := n) (many := 2) (by decide) (cl3 (l := [d2, m2]) (k := ml) (j := acc))
          refine ⟨t3, [.list [d3, m3], .list ml, .list acc], acc, ?_, rfl, by (first | lia | omega), d3, m3, ?_, by rw [List.length_append, h2]; rfl, fun b hb => ?_, by (first | lia | omega)⟩
          · repeat' (first | with_reducible (first | exact ev_int | exact evs_nil | apply evs_cons | apply ev_call | (apply Eq.symm; apply Eq.symm; assumption)) | exact ev_var rfl)
          · rfl
          · rcases List.mem_append.mp hb with hb | hb
            · exact h3 b hb
            · rw [List.mem_singleton] at hb; (first | lia | omega)
      rw [hlen] at hk
      apply wg_ret
      · apply ev_comp
        · apply evi_range
          · exact ev_var rfl
          · (first | lia | omega)
        · exact e
      · refine ⟨_, leave_lab (l := acc) (σ1 := [.list [d2, m2], .list ml]) (Nat.le_refl 2) rfl rfl, d2, m2, acc, hb, by (first | lia | omega), by (first | lia | omega), rfl⟩
    · intro _
      refine Classical.byContradiction fun hG1 => ?_
      obtain ⟨t2, d2, m2, b2, c2, e2⟩ := take0 (N := N) (pr := pr) (n := n) (many := 2) (by decide) c1
      obtain ⟨t3, d3, m3, b3, c3, e3⟩ := take0 (N := N) (pr := pr) (n := n) (many := 3 + t0) (by (first | lia | omega)) c2
      refine hG1 ?_
      apply wg_next
      · repeat' (first | with_reducible (first | exact ev_int | exact evs_nil | apply evs_cons | apply ev_call | apply ex_asgs | (apply Eq.symm; apply Eq.symm; assumption)) | exact ev_var rfl)
      · apply wg_ret
        · apply ev_comp
          · apply evi_range
            · exact ev_var rfl
            · (first | lia | omega)
          · exact comp_pure (σ := [.list [d3, m3], .list ml]) (fun x => if x ≠ t3 then t2 else 1 - t2) (by rw [hlen]; (first | lia | omega)) (fun _ => rfl) fun x hx acc => by
              by_cases hc : x ≠ t3
              · apply ev_ite_t
                · repeat' (first | with_reducible (first | apply ev_chain | apply evc_one | exact cmp_int) | exact ev_var rfl)
                · simpa [intCmp] using hc
                · rw [if_pos hc]; exact ev_var rfl
              · apply ev_ite_f
                · repeat' (first | with_reducible (first | apply ev_chain | apply evc_one | exact cmp_int) | exact ev_var rfl)
                · simpa [intCmp] using hc
                · rw [if_neg hc]; repeat' (first | with_reducible (first | exact ev_int | apply ev_bin | apply bin_int) | exact ev_var rfl | exact @rfl (Option Int) _)
        · refine ⟨_, leave_lab (σ1 := [.list [d3, m3], .list ml]) (Nat.le_refl 2) rfl rfl, d3, m3, _, fun b hb => ?_, ?_, ?_, rfl⟩
          · obtain ⟨x, _, rfl⟩ := List.mem_map.mp hb
            show (if x ≠ t3 then t2 else 1 - t2) = 0 ∨ (if x ≠ t3 then t2 else 1 - t2) = 1
            split <;> (first | lia | omega)
          · rw [List.length_map, hlen]; (first | lia | omega)
          · rw [List.length_map, hlen]; (first | lia | omega)
end

theorem range_at {n : Nat} {k : Nat} {x : Int} (h : ((List.range n).map fun (k : Nat) => (k : Int))[k]? = some x) : k < n ∧ x = k := by
  refine Classical.byContradiction fun hG0 => ?_
  rw [List.getElem?_map, Option.map_eq_some_iff] at h
  obtain ⟨y, h1, h2⟩ := h
  obtain ⟨h3, h4⟩ := List.getElem?_eq_some_iff.mp h1
  refine hG0 ?_
  rw [List.getElem_range] at h4
  rw [List.length_range] at h3
  exact ⟨h3, by (first | lia | omega)⟩
theorem range_len (n : Nat) : ((List.range n).map fun (k : Nat) => (k : Int)).length = n := by rw [List.length_map, List.length_range]
section
variable {O : Orc} {N pr : List Int} {η : En} {σ σ1 : St} {a b c : E}
theorem evb_and2 {β γ : Bool} (h1 : ev O N pr a η σ = some (.bool β, σ1)) (h2 : ev O N pr b η σ1 = some (.bool γ, σ1)) : ev O N pr (.and (.cons a (.cons b .nil))) η σ = some (.bool (β && γ), σ1) := by
  cases β with
  | true => exact ev_and (evb_go h1 rfl (by cases γ with | true => exact evb_go h2 rfl evb_nil | false => exact evb_stop h2 (by decide)))
  | false => exact ev_and (evb_stop (β := false) h1 (by decide))
theorem ev_ite_int {β : Bool} {i j : Int} (h1 : ev O N pr c η σ = some (.bool β, σ1)) (h2 : ev O N pr a η σ1 = some (.int i, σ1)) (h3 : ev O N pr b η σ1 = some (.int j, σ1)) : ev O N pr (.ite c a b) η σ = some (.int (if β = true then i else j), σ1) := by
  cases β with
  | true => exact ev_ite_t h1 rfl h2
  | false => exact ev_ite_f h1 rfl h3
end
section
variable {N : List Int} {n : Nat} {J M bs : List Int}
theorem sp_gap {lo hi : Int} (h : 31 ≤ lo ∧ lo ≤ hi ∧ hi ≤ 2017) (hb : B01 bs) (hl : 1 ≤ bs.length ∧ bs.length ≤ 30) :
    orc N prices (n + 2) 3575 [.int lo, .int hi, .lab 2] [.list J, .list M, .list bs] = some (.bool true, [.list J, .list M, .list bs]) := by
  have hln : lineOf = 1048576 := rfl
  have cl := cl3 (l := J) (k := M) (j := bs)
  have T := turns_ok (g := hi - lo) (by (first | lia | omega)) (by (first | lia | omega))
  have a0 := priceAt_anti (a := lo) (c := hi) (by (first | lia | omega)) (by (first | lia | omega)) (by (first | lia | omega))
  have a1 := priceAt_anti (a := 2048 - hi) (c := 2048 - lo) (by (first | lia | omega)) (by (first | lia | omega)) (by (first | lia | omega))
  have p1 := sp_bit_price (N := N) (n := n) (m := lo) (b := 0) (by (first | lia | omega)) cl
  have p2 := sp_bit_price (N := N) (n := n) (m := hi) (b := 0) (by (first | lia | omega)) cl
  have p3 := sp_bit_price (N := N) (n := n) (m := lo) (b := 1) (by (first | lia | omega)) cl
  have p4 := sp_bit_price (N := N) (n := n) (m := hi) (b := 1) (by (first | lia | omega)) cl
  have t1 := sp_turns (N := N) (pr := prices) (n := n) (lack := hi - lo) cl
  apply fn_eq rfl rfl rfl
  apply wg_iff (β := false)
  · apply ev_or
    apply evb_go
    · repeat' (first | with_reducible (first | exact ev_int | exact evs_nil | apply ev_chain | apply evc_one | apply evs_cons | apply ev_call | (apply Eq.symm; apply Eq.symm; assumption) | exact cmp_int) | exact ev_var rfl)
    · exact decide_eq_false (Int.not_lt.mpr a0)
    · apply evb_go
      · repeat' (first | with_reducible (first | exact ev_int | exact evs_nil | apply ev_chain | apply evc_one | apply evs_cons | apply ev_call | (apply Eq.symm; apply Eq.symm; assumption) | exact cmp_int) | exact ev_var rfl)
      · exact decide_eq_false (Int.not_lt.mpr a1)
      · exact evb_nil
  · intro k; cases k
  · intro _
    apply wg_for (l := (List.range (if turnsF (hi - lo) > (bs.length : Int) then turnsF (hi - lo) else (bs.length : Int)).toNat).map fun (k : Nat) => (k : Int)) (on := none)
      (fun k η τ => τ = [.list J, .list M, .list bs] ∧ ∃ l h, η 0 = some (.int l) ∧ η 1 = some (.int h) ∧ η 2 = some (.lab 2) ∧ V l ∧ l ≤ h ∧ V h ∧ h - l ≤ fIt k (hi - lo))
    · apply evi_range
      · repeat' (first | with_reducible (first | exact evs_nil | apply ev_bin | apply evs_cons | apply ev_call | apply ev_b1 | apply ev_max2 | (apply Eq.symm; apply Eq.symm; assumption) | apply bin_int | apply b1_len) | exact ev_var rfl | exact @rfl (Option Int) _ | exact @rfl (Option AO) _)
        show bs.length ≤ _
        (first | lia | omega)
      · have := T.lo; have := T.hi; split <;> (first | lia | omega)
    · exact ⟨rfl, lo, hi, rfl, rfl, rfl, ⟨h.1, by (first | lia | omega)⟩, h.2.1, ⟨by (first | lia | omega), h.2.2⟩, Int.le_refl _⟩
    · intro _ _ _ _; rfl
    · intro k x η τ hk ⟨hτ, l, h, h0, h1, h2, v1, v2, v3, v4⟩
      subst hτ
      obtain ⟨hk, rfl⟩ := range_at hk
      have hmod : ((k : Int) % (bs.length : Int)).toNat < bs.length := by
        have := Int.emod_lt_of_pos (k : Int) (show (0 : Int) < bs.length by (first | lia | omega))
        have := Int.emod_nonneg (k : Int) (show (bs.length : Int) ≠ 0 by (first | lia | omega))
        (first | lia | omega)
      have hit : itemAt bs ((k : Int) % (bs.length : Int)) = some bs[((k : Int) % (bs.length : Int)).toNat] :=
        item_pos (by (first | lia | omega)) (Int.emod_nonneg _ (by (first | lia | omega))) (List.getElem?_eq_getElem hmod)
      have hbit := hb _ (List.getElem_mem hmod)
      generalize bs[((k : Int) % (bs.length : Int)).toNat] = b at hit hbit
      have q1 := sp_next (N := N) (pr := prices) (n := n) (m := l) (b := b) cl
      have q2 := sp_next (N := N) (pr := prices) (n := n) (m := h) (b := b) cl
      have q3 := sp_next (N := N) (pr := prices) (n := n) (m := 2048 - l) (b := 1 - b) cl
      have n1 := next_V v1 hbit
      have n2 := next_V v3 hbit
      obtain ⟨n3, n4⟩ := next_mono v2 hbit
      have n5 := next_gap v2 hbit
      apply wg_next
      · repeat' (first | with_reducible (first | exact ev_int | exact evs_nil | apply ev_bin | apply evs_cons | apply ev_sub | apply ev_b1 | apply ex_asgs | (apply Eq.symm; apply Eq.symm; assumption) | apply bin_int | apply ib_mod | apply sub_lab | apply b1_len) | exact ev_var rfl | exact ev_var (by assumption) | exact @rfl (Option Int) _ | exact @rfl (Option AO) _)
        · show bs.length ≤ _; (first | lia | omega)
        · (first | lia | omega)
      · apply wg_next
        · repeat' (first | with_reducible (first | exact evs_nil | apply evs_cons | apply ev_call | apply ex_asgs | (apply Eq.symm; apply Eq.symm; assumption)) | exact ev_var rfl | exact ev_var (by assumption))
        · apply wg_iff (β := false)
          · apply ev_or
            apply evb_go (β := false)
            · apply ev_not (i := true)
              apply ev_chain ev_int
              apply evc_more (β := true)
              · exact ev_var rfl
              · exact congrArg some (decide_eq_true n1.1)
              · rfl
              · apply evc_more (β := true)
                · exact ev_var rfl
                · exact congrArg some (decide_eq_true n3)
                · rfl
                · apply evc_one ev_int
                  exact congrArg some (decide_eq_true n2.2)
            · rfl
            · apply evb_go
              · repeat' (first | with_reducible (first | exact ev_int | exact evs_nil | apply ev_bin | apply ev_isin | apply evs_cons | apply bin_int | apply ib_fdiv | apply ib_mul) | exact ev_var rfl | exact @rfl (Option Int) _ | exact @rfl (Option (List Int)) _ | exact Nat.le_of_ble_eq_true rfl | exact Or.inl (by decide) | exact ⟨by decide, by decide⟩)
              · rw [show List.contains _ _ = true by
                  rw [List.contains_iff_mem]
                  simp only [List.mem_cons, List.not_mem_nil, or_false]
                  exact n5]
                rfl
              · exact evb_nil
          · intro k; cases k
          · intro _
            apply wg_iff (β := false)
            · apply ev_chain
              · repeat' (first | with_reducible (first | exact ev_int | exact evs_nil | apply ev_bin | apply evs_cons | apply ev_call | (apply Eq.symm; apply Eq.symm; assumption) | apply bin_int) | exact ev_var rfl | exact @rfl (Option Int) _)
              · apply evc_one
                · repeat' (first | with_reducible (first | exact ev_int | apply ev_bin | apply bin_int) | exact ev_var rfl | exact @rfl (Option Int) _)
                · rw [next_other hbit]
                  exact congrArg some (bne_self_eq_false _)
            · intro k; cases k
            · intro _
              refine wg_nil ⟨rfl, rfl, _, _, rfl, rfl, h2, n1, n3, n2, ?_⟩
              rw [fIt_succ]
              (first | lia | omega)
    · intro η' σ' ⟨hτ, l, h, h0, h1, h2, v1, v2, v3, v4⟩
      subst hτ
      rw [range_len] at v4
      have hp := turns_past (g := hi - lo) (by (first | lia | omega)) (by (first | lia | omega)) (k := (if turnsF (hi - lo) > (bs.length : Int) then turnsF (hi - lo) else (bs.length : Int)).toNat) (by split <;> (first | lia | omega))
      apply wg_ret
      · repeat' (first | with_reducible (first | exact ev_int | apply ev_bin | apply ev_chain | apply evc_one | exact cmp_int | apply bin_int) | exact ev_var (by assumption) | exact @rfl (Option Int) _)
      · rw [show intCmp .le (h - l) 31 = true from decide_eq_true (by (first | lia | omega))]
        exact leave_bool (cut_self cl)
theorem sp_order {m : Int} (hm : V m) (hb : B01 bs) (hl : 1 ≤ bs.length ∧ bs.length ≤ 30) :
    orc N prices (n + 3) 3582 [.int m, .lab 2] [.list J, .list M, .list bs] = some (.bool true, [.list J, .list M, .list bs]) := by
  refine Classical.byContradiction fun hG0 => ?_
  have hln : lineOf = 1048576 := rfl
  obtain ⟨z, o, hp, hsum, hlen⟩ := perm_zo bs hb
  have hs := sort_zo hp
  have hlen' : (zs z ++ os o).length = z + o := by rw [List.length_append, zs, os, List.length_replicate, List.length_replicate]
  have hlen2 : (os o ++ zs z).length = z + o := by rw [List.length_append, zs, os, List.length_replicate, List.length_replicate]; (first | lia | omega)
  obtain ⟨g1, g2⟩ := order_mid bs z o hm hb hp
  refine hG0 ?_
  have g3 := order_gap z o hm
  have e1 := sp_led (N := N) (pr := prices) (n := n) (m := m) (j := 3) (bs := [1, 0]) (σ := [.list J, .list M, .list bs, .list [1, 0]]) rfl rfl
  have e2 := sp_led (N := N) (pr := prices) (n := n) (m := m) (j := 4) (bs := [0, 1]) (σ := [.list J, .list M, .list bs, .list [1, 0], .list [0, 1]]) rfl rfl
  have e3 := sp_led (N := N) (pr := prices) (n := n) (m := m) (j := 5) (bs := zs z ++ os o) (σ := [.list J, .list M, .list bs, .list [1, 0], .list [0, 1], .list (zs z ++ os o)]) rfl rfl
  have e4 := sp_led (N := N) (pr := prices) (n := n) (m := m) (j := 7) (bs := os o ++ zs z) (σ := [.list J, .list M, .list bs, .list [1, 0], .list [0, 1], .list (zs z ++ os o), .list (zs z ++ os o), .list (os o ++ zs z)]) rfl rfl
  have e5 := sp_led (N := N) (pr := prices) (n := n) (m := m) (j := 2) (bs := bs) (σ := [.list J, .list M, .list bs, .list [1, 0], .list [0, 1], .list (zs z ++ os o), .list (zs z ++ os o), .list (os o ++ zs z)]) rfl rfl
  apply fn_eq rfl rfl rfl
  apply wg_next
  · apply ex_asgs
    apply evs_cons
    · apply ev_call
      · repeat' (first | with_reducible (first | exact ev_int | exact evs_nil | apply evs_cons | apply ev_list | apply new_list) | exact ev_var rfl | exact @rfl (Option (List Int)) _ | exact Nat.le_of_ble_eq_true rfl)
      · exact e1
    · apply evs_cons
      · apply ev_call
        · repeat' (first | with_reducible (first | exact ev_int | exact evs_nil | apply evs_cons | apply ev_list | apply new_list) | exact ev_var rfl | exact @rfl (Option (List Int)) _ | exact Nat.le_of_ble_eq_true rfl)
        · exact e2
      · exact evs_nil
  · apply wg_iff (β := false)
    · apply ev_chain
      · repeat' (first | with_reducible (first | apply ev_bin | apply bin_int) | exact ev_var rfl | exact @rfl (Option Int) _)
      · apply evc_one
        · apply ev_ite_int
          · apply evb_and2
            · repeat' (first | with_reducible (first | exact ev_int | apply ev_bin | apply ev_chain | apply evc_one | exact cmp_int | apply bin_int | apply ib_mod) | exact ev_var rfl | decide)
            · repeat' (first | with_reducible (first | exact ev_int | apply ev_chain | apply evc_one | exact cmp_int) | exact ev_var rfl)
          · exact ev_int
          · exact ev_int
        · rw [show ledF m [1, 0] - ledF m [0, 1] = if m % 32 = 0 ∧ m ≠ 1024 then 1 else 2 from swap_eq hm]
          refine congrArg some (bne_eq_false_iff_eq.mpr ?_)
          have hc : ((intCmp .eq (m % 32) 0 && intCmp .ne m 1024) = true) ↔ (m % 32 = 0 ∧ m ≠ 1024) := by simp [intCmp]
          by_cases hd : m % 32 = 0 ∧ m ≠ 1024
          · rw [if_pos hd, if_pos (hc.mpr hd)]
          · rw [if_neg hd, if_neg (fun k => hd (hc.mp k))]
    · intro k; cases k
    · intro _
      apply wg_next
      · apply ex_asgs
        apply evs_cons
        · apply ev_call
          · apply evs_cons
            · repeat' (first | exact ev_var rfl)
            · apply evs_cons
              · apply ev_b1
                · repeat' (first | exact ev_var rfl)
                · apply b1_sorted (l := bs) rfl (by (first | lia | omega))
                  rw [show (bs.mergeSort fun a b => decide (a ≤ b)) = zs z ++ os o from hs]
                  exact new_list (by (first | lia | omega))
              · exact evs_nil
          · exact e3
        · apply evs_cons
          · apply ev_call
            · apply evs_cons
              · repeat' (first | exact ev_var rfl)
              · apply evs_cons
                · apply ev_rev
                  · apply ev_b1
                    · repeat' (first | exact ev_var rfl)
                    · apply b1_sorted (l := bs) rfl (by (first | lia | omega))
                      rw [show (bs.mergeSort fun a b => decide (a ≤ b)) = zs z ++ os o from hs]
                      exact new_list (by (first | lia | omega))
                  · apply cut_lab (l := zs z ++ os o) rfl (by (first | lia | omega))
                    rw [rev_zo]
                    exact new_list (by (first | lia | omega))
                · exact evs_nil
            · exact e4
          · exact evs_nil
      · apply wg_iff (β := false)
        · apply ev_not (i := true)
          apply ev_chain
          · repeat' (first | exact ev_var rfl)
          · apply evc_more (β := true)
            · apply ev_call
              · repeat' (first | with_reducible (first | exact evs_nil | apply evs_cons) | exact ev_var rfl)
              · exact e5
            · exact congrArg some (decide_eq_true g1)
            · rfl
            · apply evc_one
              · repeat' (first | exact ev_var rfl)
              · exact congrArg some (decide_eq_true g2)
        · intro k; cases k
        · intro _
          apply wg_ret (v := .bool true)
          · apply ev_chain
            · repeat' (first | with_reducible (first | apply ev_bin | apply bin_int) | exact ev_var rfl | exact @rfl (Option Int) _)
            · apply evc_one
              · apply ev_bin
                · apply ev_bin
                  · exact ev_int
                  · apply ev_b1
                    · repeat' (first | exact ev_var rfl)
                    · exact b1_sum (l := bs) rfl
                  · exact bin_int (ib_mul (.inl (by decide)))
                · apply ev_bin
                  · apply ev_b1
                    · repeat' (first | exact ev_var rfl)
                    · exact b1_len (l := bs) rfl (by (first | lia | omega))
                  · apply ev_b1
                    · repeat' (first | exact ev_var rfl)
                    · exact b1_sum (l := bs) rfl
                  · exact bin_int rfl
                · apply bin_int
                  apply ib_mul
                  left
                  rw [hsum]; (first | lia | omega)
              · refine congrArg some (decide_eq_true ?_)
                rw [hsum, hlen, show ((z + o : Nat) : Int) - (o : Int) = z by (first | lia | omega)]
                exact g3
          · exact leave_bool (cut_app (σ := [.list J, .list M, .list bs]) rfl rfl)
end

theorem item_last {ys : List Int} {x : Int} (h : ys.length + 1 ≤ lineOf) : itemAt (ys ++ [x]) (-1) = some x := by
  have hl : (ys ++ [x]).length = ys.length + 1 := by rw [List.length_append]; rfl
  unfold itemAt
  rw [if_neg (by (first | lia | omega)), if_neg (by (first | lia | omega)), if_pos (by (first | lia | omega)), hl, show ((-1 : Int) + ((ys.length + 1 : Nat) : Int)).toNat = ys.length by (first | lia | omega), List.getElem?_append_right (Nat.le_refl _), Nat.sub_self]
  rfl
theorem bin_rep {σ : St} {m : Nat} {k : Int} {xs : List Int} {r : AV × St} (h1 : σ[m]? = some (.list xs)) (h2 : xs.length ≤ 1000 ∧ -1000 ≤ k ∧ k ≤ 1000) (h3 : newL σ (List.replicate k.toNat xs).flatten = some r) : binv .mul (.lab m) (.int k) σ = some r := by
  show (match σ[m]? with | some (.list xs) => if xs.length ≤ 1000 ∧ -1000 ≤ k ∧ k ≤ 1000 then newL σ (List.replicate k.toNat xs).flatten else none | _ => none) = _
  rw [h1]; exact (if_pos h2).trans h3
theorem bin_cat {σ : St} {m n : Nat} {xs ys : List Int} {r : AV × St} (h1 : σ[m]? = some (.list xs)) (h2 : σ[n]? = some (.list ys)) (h3 : newL σ (xs ++ ys) = some r) : binv .add (.lab m) (.lab n) σ = some r := by
  show (match σ[m]?, σ[n]? with | some (.list xs), some (.list ys) => newL σ (xs ++ ys) | _, _ => none) = _
  rw [h1, h2]; exact h3
theorem ev_compN {O : Orc} {N pr : List Int} {η : En} {σ σ1 : St} {e : E} {j cap it l on τ} {n : Nat} (h1 : evi O N pr it η σ = some (l, on, σ1)) (hn : σ1.length = n) (h2 : compGo (fun v τ => ev O N pr e (upd (fun i => if cap.contains i then η i else none) j v) τ) n (fun τ => isL τ on l) l (σ1 ++ [.list []]) = some τ) :
    ev O N pr (.comp e j cap it) η σ = some (.lab n, τ) := by subst hn; exact ev_comp h1 h2
section
variable {N : List Int} {n : Nat} {J M bs : List Int}
theorem sp_run {m b : Int} (hm : V m) (hb : b = 0 ∨ b = 1) : orc N prices (n + 3) 3587 [.int m, .int b] [.list J, .list M, .list bs] = some (.bool true, [.list J, .list M, .list bs]) := by
  have hln : lineOf = 1048576 := rfl
  obtain ⟨T1, T2⟩ := turns_b hm hb
  have t1 := sp_turns (N := N) (pr := prices) (n := n + 1) (lack := lackF b m) (cl3 (l := J) (k := M) (j := bs))
  have hT : (turnsF (lackF b m) + 2).toNat + 1 = (turnsF (lackF b m)).toNat + 3 := by (first | lia | omega)
  have hsl := some_len hm hb
  have r1 := row_drop hm hb
  have r2 := row_take hm hb
  have r3 := rowL_len m b ((turnsF (lackF b m)).toNat + 3)
  apply fn_eq rfl rfl rfl
  apply wg_next (η1 := upds (enter [.int m, .int b]) [4, 5] [.int (endF b), .int (lackF b m)]) (σ1 := [.list J, .list M, .list bs])
  · by_cases h : b = 0
    · subst h
      exact ex_asgIf_t (ev_chain (ev_var rfl) (evc_one ev_int cmp_int)) rfl (evs_cons ev_int (evs_cons (ev_bin ev_int (ev_var rfl) (bin_int rfl)) evs_nil))
    · obtain rfl : b = 1 := hb.resolve_left h
      exact ex_asgIf_f (ev_chain (ev_var rfl) (evc_one ev_int cmp_int)) rfl (evs_cons ev_int (evs_cons (ev_var rfl) evs_nil))
  · apply wg_next
    · repeat' (first | with_reducible (first | exact evs_nil | apply evs_cons | apply ev_call | apply ev_list | apply ex_asgs | (apply Eq.symm; apply Eq.symm; assumption) | apply new_list) | exact ev_var rfl | exact @rfl (Option (List Int)) _ | exact Nat.le_of_ble_eq_true rfl)
    · apply wg_for (l := (List.range (turnsF (lackF b m) + 2).toNat).map fun (k : Nat) => (k : Int)) (on := none)
        (fun k η τ => τ = [.list J, .list M, .list bs, .list (rowL m b (k + 1))] ∧ η 0 = some (.int m) ∧ η 1 = some (.int b) ∧ η 4 = some (.int (endF b)) ∧ η 6 = some (.int (turnsF (lackF b m))) ∧ η 7 = some (.lab 3))
      · repeat' (first | with_reducible (first | exact ev_int | apply ev_bin | apply evi_range | apply bin_int) | exact ev_var rfl | exact @rfl (Option Int) _)
        (first | lia | omega)
      · exact ⟨rfl, rfl, rfl, rfl, rfl, rfl⟩
      · intro _ _ _ _; rfl
      · intro k x η τ hk ⟨hτ, h0, h1, h4, h6, h7⟩
        subst hτ
        obtain ⟨hk, rfl⟩ := range_at hk
        have q := sp_next (N := N) (pr := prices) (n := n + 1) (m := nIt b k m) (b := b) (σ := [.list J, .list M, .list bs, .list (rowL m b (k + 1))]) rfl
        apply wg_next
        · apply ex_append
          · exact ev_var h7
          · apply ev_call
            · apply evs_cons
              · apply ev_sub
                · exact ev_var h7
                · exact ev_neg ev_int
                · apply sub_lab (l := rowL m b (k + 1)) rfl
                  rw [rowL_succ]
                  exact item_last (by rw [rowL_len]; (first | lia | omega))
              · apply evs_cons
                · exact ev_var h1
                · exact evs_nil
            · exact q
          · rfl
          · show (if (rowL m b (k + 1)).length ≤ lineOf then _ else _) = _
            rw [if_pos (by rw [rowL_len]; (first | lia | omega))]
        · apply wg_nil
          refine ⟨rfl, ?_, h0, h1, h4, h6, h7⟩
          rw [rowL_succ m b (k + 1)]; rfl
      · intro η τ ⟨hτ, h0, h1, h4, h6, h7⟩
        rw [range_len, hT] at hτ
        have e8 : evs (orc N prices (n + 2)) N prices (.cons (.comp (.call 3521 (.cons (.var 10) (.cons (.var 1) .nil))) 10 [1] (.elems (.var 3))) (.cons (.comp (.call 3521 (.cons (.var 10) (.cons (.bin .sub (.int 1) (.var 1)) .nil))) 10 [1] (.elems (.var 3))) .nil)) (upd η 3 (.lab 10))
            [.list J, .list M, .list bs, .list (rowL m b ((turnsF (lackF b m)).toNat + 3)), .list [endF b, endF b, endF b], .list [endF b], .list [endF b, endF b, endF b], .list ((rowL m b ((turnsF (lackF b m)).toNat + 3)).take (turnsF (lackF b m)).toNat),
              .list (everyL 8 (rowL m b ((turnsF (lackF b m)).toNat + 3))), .list [endF b], .list (someL m b)] = some ([.lab 11, .lab 12],
            [.list J, .list M, .list bs, .list (rowL m b ((turnsF (lackF b m)).toNat + 3)), .list [endF b, endF b, endF b], .list [endF b], .list [endF b, endF b, endF b], .list ((rowL m b ((turnsF (lackF b m)).toNat + 3)).take (turnsF (lackF b m)).toNat),
              .list (everyL 8 (rowL m b ((turnsF (lackF b m)).toNat + 3))), .list [endF b], .list (someL m b), .list ((someL m b).map fun x => priceF x b), .list ((someL m b).map fun x => priceF x (1 - b))]) := by
          apply evs_cons
          · apply ev_compN
            · exact evi_elems (l := someL m b) (ev_var rfl) rfl
            · rfl
            · exact comp_pure (σ := [.list J, .list M, .list bs, .list (rowL m b ((turnsF (lackF b m)).toNat + 3)), .list [endF b, endF b, endF b], .list [endF b], .list [endF b, endF b, endF b], .list ((rowL m b ((turnsF (lackF b m)).toNat + 3)).take (turnsF (lackF b m)).toNat),
                .list (everyL 8 (rowL m b ((turnsF (lackF b m)).toNat + 3))), .list [endF b], .list (someL m b)]) (fun x => priceF x b) (by (first | lia | omega)) (fun acc => by simp [isL]) fun x hx acc => by
                  have v := some_V hm hb x hx
                  have q := sp_bit_price (N := N) (n := n + 1) (m := x) (b := b) (by have := v.1; have := v.2; (first | lia | omega)) (σ := [.list J, .list M, .list bs, .list (rowL m b ((turnsF (lackF b m)).toNat + 3)), .list [endF b, endF b, endF b], .list [endF b], .list [endF b, endF b, endF b], .list ((rowL m b ((turnsF (lackF b m)).toNat + 3)).take (turnsF (lackF b m)).toNat),
                    .list (everyL 8 (rowL m b ((turnsF (lackF b m)).toNat + 3))), .list [endF b], .list (someL m b), .list acc]) rfl
                  apply ev_call
                  · apply evs_cons
                    · exact ev_var rfl
                    · apply evs_cons
                      · exact ev_var h1
                      · exact evs_nil
                  · exact q
          · apply evs_cons
            · apply ev_compN
              · exact evi_elems (l := someL m b) (ev_var rfl) rfl
              · rfl
              · exact comp_pure (σ := [.list J, .list M, .list bs, .list (rowL m b ((turnsF (lackF b m)).toNat + 3)), .list [endF b, endF b, endF b], .list [endF b], .list [endF b, endF b, endF b], .list ((rowL m b ((turnsF (lackF b m)).toNat + 3)).take (turnsF (lackF b m)).toNat),
                  .list (everyL 8 (rowL m b ((turnsF (lackF b m)).toNat + 3))), .list [endF b], .list (someL m b), .list ((someL m b).map fun x => priceF x b)]) (fun x => priceF x (1 - b)) (by (first | lia | omega)) (fun acc => by simp [isL]) fun x hx acc => by
                    have v := some_V hm hb x hx
                    have q := sp_bit_price (N := N) (n := n + 1) (m := x) (b := 1 - b) (by have := v.1; have := v.2; (first | lia | omega)) (σ := [.list J, .list M, .list bs, .list (rowL m b ((turnsF (lackF b m)).toNat + 3)), .list [endF b, endF b, endF b], .list [endF b], .list [endF b, endF b, endF b], .list ((rowL m b ((turnsF (lackF b m)).toNat + 3)).take (turnsF (lackF b m)).toNat),
                      .list (everyL 8 (rowL m b ((turnsF (lackF b m)).toNat + 3))), .list [endF b], .list (someL m b), .list ((someL m b).map fun x => priceF x b), .list acc]) rfl
                    apply ev_call
                    · apply evs_cons
                      · exact ev_var rfl
                      · apply evs_cons
                        · apply ev_bin
                          · exact ev_int
                          · exact ev_var h1
                          · exact bin_int rfl
                        · exact evs_nil
                    · exact q
            · exact evs_nil
        have s1 := same_sorted hm hb
        have s2 := other_sorted hm hb
        have x1 := exact_same hm hb
        have x2 := exact_other hm hb
        unfold someL at *
        generalize rowL m b ((turnsF (lackF b m)).toNat + 3) = row at *
        subst hτ
        apply wg_iff (β := false)
        · apply ev_or
          apply evb_go (β := false)
          · apply ev_chain
            · apply ev_from
              · exact ev_var h7
              · exact ev_var h6
              · exact T2
              · apply cut_lab (l := row) rfl (by (first | lia | omega))
                rw [r1]
                exact new_list (le_line rfl)
            · apply evc_one
              · apply ev_bin
                · apply ev_list
                  · apply evs_cons
                    · exact ev_var h4
                    · exact evs_nil
                  · rfl
                  · exact new_list (le_line rfl)
                · exact ev_int
                · apply bin_rep (xs := [endF b])
                  · rfl
                  · exact ⟨by show 1 ≤ 1000; decide, by decide, by decide⟩
                  · exact new_list (le_line rfl)
              · exact congrArg some (bne_self_eq_false _)
          · rfl
          · apply evb_go
            · apply ev_inl
              · exact ev_var h4
              · apply ev_upto
                · exact ev_var h7
                · exact ev_var h6
                · exact T2
                · apply cut_lab (l := row) rfl (by (first | lia | omega))
                  exact new_list (by rw [List.length_take]; (first | lia | omega))
              · rfl
            · exact r2
            · exact evb_nil
        · intro k; cases k
        · intro _
          have hev := every_len 8 row
          apply wg_next
          · apply ex_asg
            apply ev_bin
            · apply ev_every
              · exact ev_var h7
              · apply cut_lab (l := row) rfl (by (first | lia | omega))
                exact new_list (by (first | lia | omega))
            · apply ev_list
              · apply evs_cons
                · exact ev_var h4
                · exact evs_nil
              · rfl
              · exact new_list (le_line rfl)
            · exact bin_cat (xs := everyL 8 row) (ys := [endF b]) rfl rfl (new_list (by (first | lia | omega)))
          · apply wg_next
            · apply ex_asgs
              exact e8
            · apply wg_iff (β := false)
              · apply ev_or
                apply evb_go (β := false)
                · apply ev_chain
                  · exact ev_var rfl
                  · apply evc_one
                    · apply ev_rev
                      · apply ev_b1
                        · exact ev_var rfl
                        · apply b1_sorted (l := (everyL 8 row ++ [endF b]).map fun x => priceF x b) rfl (by rw [List.length_map]; (first | lia | omega))
                          exact new_list (by rw [List.length_mergeSort, List.length_map]; (first | lia | omega))
                      · apply cut_lab (l := sortL ((everyL 8 row ++ [endF b]).map fun x => priceF x b)) rfl (by rw [List.length_mergeSort, List.length_map]; (first | lia | omega))
                        rw [s1]
                        exact new_list (by rw [List.length_map]; (first | lia | omega))
                    · exact congrArg some (bne_self_eq_false _)
                · rfl
                · apply evb_go (β := false)
                  · apply ev_chain
                    · exact ev_var rfl
                    · apply evc_one
                      · apply ev_b1
                        · exact ev_var rfl
                        · apply b1_sorted (l := (everyL 8 row ++ [endF b]).map fun x => priceF x (1 - b)) rfl (by rw [List.length_map]; (first | lia | omega))
                          rw [show List.mergeSort _ _ = _ from s2]
                          exact new_list (by rw [List.length_map]; (first | lia | omega))
                      · exact congrArg some (bne_self_eq_false _)
                  · rfl
                  · exact evb_nil
              · intro k; cases k
              · intro _
                have hE : 31 ≤ endF b ∧ endF b ≤ 2017 := by rcases hb with rfl | rfl <;> exact ⟨by decide, by decide⟩
                have hb' : 1 - b = 0 ∨ 1 - b = 1 := by (first | lia | omega)
                apply wg_ret (v := .bool true)
                · apply evb_and2 (β := true) (γ := true)
                  · apply ev_chain
                    · apply ev_call
                      · apply evs_cons
                        · exact ev_var h4
                        · apply evs_cons
                          · exact ev_var h1
                          · exact evs_nil
                      · exact sp_exact hE hb rfl
                    · apply evc_one
                      · apply ev_call
                        · apply evs_cons
                          · exact ev_var h0
                          · apply evs_cons
                            · exact ev_var h1
                            · exact evs_nil
                        · exact sp_exact hm hb rfl
                      · exact congrArg some (decide_eq_true x1)
                  · apply ev_chain
                    · apply ev_call
                      · apply evs_cons
                        · exact ev_var h4
                        · apply evs_cons
                          · apply ev_bin
                            · exact ev_int
                            · exact ev_var h1
                            · exact bin_int rfl
                          · exact evs_nil
                      · exact sp_exact hE hb' rfl
                    · apply evc_one
                      · apply ev_call
                        · apply evs_cons
                          · exact ev_var h0
                          · apply evs_cons
                            · apply ev_bin
                              · exact ev_int
                              · exact ev_var h1
                              · exact bin_int rfl
                            · exact evs_nil
                        · exact sp_exact hm hb' rfl
                      · exact congrArg some (decide_eq_true x2)
                · exact leave_bool (cut_app (σ := [.list J, .list M, .list bs]) rfl rfl)
end

/-! bits -/
theorem band_of {a b : Int} (ha : 0 ≤ a) (hb : 0 ≤ b) : Builtin.bitAnd a b = ((a.toNat &&& b.toNat : Nat) : Int) := by
  unfold Builtin.bitAnd
  rw [decide_eq_true ha, decide_eq_true hb]
theorem band255 {a : Int} (h : 0 ≤ a) : Builtin.bitAnd a 255 = a % 256 := by
  rw [band_of h (by decide), show (255 : Int).toNat = 2 ^ 8 - 1 from rfl, Nat.and_two_pow_sub_one_eq_mod]
  (first | lia | omega)
theorem band24 {a : Int} (h : 0 ≤ a) : Builtin.bitAnd a (16777216 - 1) = a % 16777216 := by
  rw [band_of h (by decide), show ((16777216 : Int) - 1).toNat = 2 ^ 24 - 1 from rfl, Nat.and_two_pow_sub_one_eq_mod]
  (first | lia | omega)
theorem bor8 {a d : Int} (h : 0 ≤ a) (h0 : 0 ≤ d) (h1 : d < 256) : Builtin.bitOr (a * 256) d = a * 256 + d := by
  unfold Builtin.bitOr
  have n1 : ¬ (0 ≤ Builtin.bitNot (a * 256)) := by unfold Builtin.bitNot; (first | lia | omega)
  have n2 : ¬ (0 ≤ Builtin.bitNot d) := by unfold Builtin.bitNot; (first | lia | omega)
  have m1 : Builtin.bitNot (Builtin.bitNot (a * 256)) = a * 256 := by unfold Builtin.bitNot; (first | lia | omega)
  have m2 : Builtin.bitNot (Builtin.bitNot d) = d := by unfold Builtin.bitNot; (first | lia | omega)
  unfold Builtin.bitAnd
  rw [decide_eq_false n1, decide_eq_false n2]
  dsimp only
  rw [m1, m2]
  have e : ((a * 256).toNat ||| d.toNat) = (a * 256).toNat + d.toNat := by
    have := Nat.shiftLeft_add_eq_or_of_lt (i := 8) (b := d.toNat) (by (first | lia | omega)) a.toNat
    rw [Nat.shiftLeft_eq] at this
    rw [show (a * 256).toNat = a.toNat * 2 ^ 8 by (first | lia | omega), this]
  rw [e]
  unfold Builtin.bitNot
  (first | lia | omega)
noncomputable def wf (w : W) (c : Bool) (mb : Nat) : List (Nat × AV) := [(6, .lab mb), (7, .int w.low), (4, .int w.span), (8, .int w.cache), (9, .int w.held), (10, .bool c)]
/-- a writer, its octets and a model, wherever they lie -/
structure WS (S : List (Nat × AV) → List Int → Int → St) (o d mb j : Nat) : Prop where
  ho : ∀ D B m, (S D B m)[o]? = some (.inst 276 d)
  hd : ∀ D B m, (S D B m)[d]? = some (.dict D)
  hb : ∀ D B m, (S D B m)[mb]? = some (.barr B)
  hj : ∀ D B m, (S D B m)[j]? = some (.list [m])
  sd : ∀ D B m D', (S D B m).set d (.dict D') = S D' B m
  sb : ∀ D B m B', (S D B m).set mb (.barr B') = S D B' m
  sj : ∀ D B m m', (S D B m).set j (.list [m']) = S D B m'
structure WC (S : List (Nat × AV) → List Int → Int → St) (o d mb j : Nat) : Prop extends WS S o d mb j where
  cl : ∀ w c B m, Cl (S (wf w c mb) B m)
  len : ∀ D B m D' B' m', (S D B m).length = (S D' B' m').length
section
variable {O : Orc} {N pr : List Int} {n : Nat} {S : List (Nat × AV) → List Int → Int → St} {o d mb j : Nat} {D : List (Nat × AV)} {B : List Int} {m : Int} {η : En} {σ σ1 : St} {a b c : E} {Q : Fl → En → St → Prop} {v : AV}
theorem WS.ext (h : WS S o d mb j) (x : AO) : WS (fun D B m => S D B m ++ [x]) o d mb j := by
  have lt : ∀ {σ : St} {i : Nat} {y : AO}, σ[i]? = some y → i < σ.length := fun e => (List.getElem?_eq_some_iff.mp e).1
  refine ⟨fun D B m => ?_, fun D B m => ?_, fun D B m => ?_, fun D B m => ?_, fun D B m D' => ?_, fun D B m B' => ?_, fun D B m m' => ?_⟩
  · rw [List.getElem?_append_left (lt (h.ho D B m))]; exact h.ho D B m
  · rw [List.getElem?_append_left (lt (h.hd D B m))]; exact h.hd D B m
  · rw [List.getElem?_append_left (lt (h.hb D B m))]; exact h.hb D B m
  · rw [List.getElem?_append_left (lt (h.hj D B m))]; exact h.hj D B m
  · rw [List.set_append_left _ _ (lt (h.hd D B m)), h.sd]
  · rw [List.set_append_left _ _ (lt (h.hb D B m)), h.sb]
  · rw [List.set_append_left _ _ (lt (h.hj D B m)), h.sj]
theorem attr_at (h : WS S o d mb j) {k : Nat} (hl : D.lookup k = some v) : attrOf (S D B m) (.lab o) k = some v := by
  unfold attrOf; simp only [h.ho, h.hd]; exact hl
theorem put_at (h : WS S o d mb j) {k : Nat} (hl : D.length ≤ 100) : putAttr (S D B m) (.lab o) k v = some (S (putFld D k v) B m) := by
  unfold putAttr; simp only [h.ho, h.hd, if_pos hl, h.sd]
theorem cls_at (h : WS S o d mb j) : clsOf (S D B m) (.lab o) = some 276 := by unfold clsOf; simp only [h.ho, h.hd]
theorem append_at (h : WS S o d mb j) {i : Int} (hl : B.length ≤ lineOf ∧ 0 ≤ i ∧ i < 256) : appendv (S D B m) (.lab mb) (.int i) = some (S D (B ++ [i]) m) := by
  unfold appendv; simp only [h.hb, if_pos hl, h.sb]
theorem extend_at (h : WS S o d mb j) {l : List Int} (hl : B.length ≤ lineOf ∧ l.length ≤ lineOf) : extendv (S D B m) (.lab mb) (.bytes l) = some (S D (B ++ l) m) := by
  unfold extendv; simp only [h.hb, if_pos hl, h.sb]
theorem kind_at (h : WS S o d mb j) : kindL (S D B m) (.lab mb) = 2 := by unfold kindL; simp only [h.hb]
theorem evb_or2 {β γ : Bool} (h1 : ev O N pr a η σ = some (.bool β, σ1)) (h2 : ev O N pr b η σ1 = some (.bool γ, σ1)) : ev O N pr (.or (.cons a (.cons b .nil))) η σ = some (.bool (β || γ), σ1) := by
  cases β with
  | false => exact ev_or (evb_go h1 rfl (by cases γ with | false => exact evb_go h2 rfl evb_nil | true => exact evb_stop h2 (by decide)))
  | true => exact ev_or (evb_stop (β := true) h1 (by decide))
theorem bytes_rep {l : List Int} {k : Int} (h : l ≠ [] ∧ l.length ≤ 16 ∧ -1000 ≤ k ∧ k ≤ 1000) : binv .mul (.bytes l) (.int k) σ = some (.bytes (List.replicate k.toNat l).flatten, σ) := if_pos h
theorem flat_rep (x : Int) : ∀ k : Nat, (List.replicate k [x]).flatten = List.replicate k x
  | 0 => rfl
  | k + 1 => by rw [List.replicate_succ, List.replicate_succ, List.flatten_cons, flat_rep x k]; rfl
theorem wr_tail {w : W} {cb : Bool} (h : WS S o d mb j) (hl : 0 ≤ w.low) (h0 : η 0 = some (.lab o)) (q : Q .next η (S (wf { w with held := w.held + 1, low := w.low % 16777216 * 256 } cb mb) B m)) :
    Wg O N pr (.cons (.augAttr (.var 0) 9 .add (.int 1)) (.cons (.setAttr (.var 0) 7 (.bin .shl (.bin .band (.attr (.var 0) 7) (.bin .sub (.glob 16777216) (.int 1))) (.int 8))) .nil)) η (S (wf w cb mb) B m) Q := by
  apply wg_next
  · apply ex_augAttr
    · exact ev_var h0
    · exact attr_at h rfl
    · exact ev_int
    · rfl
    · exact put_at h (by decide : 6 ≤ 100)
  · apply wg_next
    · apply ex_setAttr
      · apply ev_bin
        · apply ev_bin
          · apply ev_attr
            · exact ev_var h0
            · exact attr_at h rfl
          · apply ev_bin
            · exact ev_glob
            · exact ev_int
            · exact bin_int rfl
          · exact bin_int rfl
        · exact ev_int
        · rw [band24 hl]
          exact bin_int (ib_shl8 (by (first | lia | omega)))
      · exact ev_var h0
      · exact put_at h (by decide : 6 ≤ 100)
    · exact wg_nil q
theorem sp_shift {w : W} {cb : Bool} {s : Int} (h : WC S o d mb j) (I : WI w s) (hk : w.k ≤ 900) : orc N pr (n + 1) 217 [.lab o] (S (wf w cb mb) w.made m) = some (.none, S (wf (shiftW w) cb mb) (shiftW w).made m) := by
  have hln : lineOf = 1048576 := rfl
  have hs := h.toWS
  have hmk : w.made.length ≤ 901 := by unfold W.k at hk; (first | lia | omega)
  have hh := held_k I
  have hls := I.ls
  have hs0 := I.s0
  have hl0 := I.l0
  have hc0 := I.c0
  have h1 := I.h1
  apply fn_eq rfl rfl rfl
  apply wg_iff
  · apply evb_or2
    · apply ev_chain
      · apply ev_attr
        · exact ev_var rfl
        · exact attr_at hs rfl
      · exact evc_one ev_glob cmp_int
    · apply ev_chain
      · apply ev_attr
        · exact ev_var rfl
        · exact attr_at hs rfl
      · exact evc_one ev_glob cmp_int
  · intro hc
    have hc : w.low < 4278190080 ∨ 4294967296 ≤ w.low := by simpa [intCmp] using hc
    apply wg_next
    · apply ex_asg
      apply ev_bin
      · apply ev_attr
        · exact ev_var rfl
        · exact attr_at hs rfl
      · exact ev_int
      · exact bin_int ib_shr32
    · apply wg_next
      · apply ex_append
        · apply ev_attr
          · exact ev_var rfl
          · exact attr_at hs rfl
        · apply ev_bin
          · apply ev_bin
            · apply ev_attr
              · exact ev_var rfl
              · exact attr_at hs rfl
            · exact ev_var rfl
            · exact bin_int rfl
          · exact ev_int
          · exact bin_int rfl
        · rfl
        · rw [band255 (by (first | lia | omega))]
          exact append_at hs (by (first | lia | omega))
      · apply wg_next
        · apply ex_extend
          · apply ev_attr
            · exact ev_var rfl
            · exact attr_at hs rfl
          · apply ev_bin
            · apply ev_b1
              · apply ev_list
                · apply evs_cons
                  · apply ev_bin
                    · apply ev_bin
                      · exact ev_int
                      · exact ev_var rfl
                      · exact bin_int rfl
                    · exact ev_int
                    · exact bin_int rfl
                  · exact evs_nil
                · rfl
                · exact new_list (le_line rfl)
              · rw [band255 (by (first | lia | omega))]
                apply b1_bytesl (l := [(255 + w.low / 4294967296) % 256])
                · rw [List.getElem?_append_right (Nat.le_refl _), Nat.sub_self]; rfl
                · refine ⟨?_, by show 1 ≤ _; (first | lia | omega)⟩
                  simp [isOctets]; (first | lia | omega)
            · apply ev_bin
              · apply ev_attr
                · exact ev_var rfl
                · exact attr_at (hs.ext _) rfl
              · exact ev_int
              · exact bin_int rfl
            · exact bytes_rep ⟨by simp, by show 1 ≤ 16; decide, by (first | lia | omega), by (first | lia | omega)⟩
          · exact (kind_at hs).trans (kind_at (hs.ext _)).symm
          · rw [flat_rep]
            exact extend_at (hs.ext _) ⟨by rw [List.length_append]; simp; (first | lia | omega), by rw [List.length_replicate]; (first | lia | omega)⟩
        · apply wg_next
          · apply ex_setAttr
            · apply ev_bin
              · apply ev_bin
                · apply ev_attr
                  · exact ev_var rfl
                  · exact attr_at (hs.ext _) rfl
                · exact ev_int
                · exact bin_int ib_shr24
              · exact ev_int
              · exact bin_int rfl
            · exact ev_var rfl
            · rw [band255 (by (first | lia | omega))]
              exact put_at (hs.ext _) (by decide : 6 ≤ 100)
          · apply wg_next
            · apply ex_setAttr
              · exact ev_int
              · exact ev_var rfl
              · exact put_at (hs.ext _) (by decide : 6 ≤ 100)
            · refine wr_tail (w := ⟨[], w.low, w.span, w.low / 16777216 % 256, 0⟩) (hs.ext _) hl0 rfl ?_
              have e : shiftW w = ⟨w.made ++ [(w.cache + w.low / 4294967296) % 256] ++ List.replicate (w.held - 1).toNat ((255 + w.low / 4294967296) % 256), w.low % 16777216 * 256, w.span, w.low / 16777216 % 256, 1⟩ := by
                unfold shiftW; rw [if_pos hc]
              rw [e]
              exact leave_none (cut_app (h.len _ _ _ _ _ _) (h.cl _ _ _ _))
  · intro hc
    have hc : ¬ (w.low < 4278190080 ∨ 4294967296 ≤ w.low) := by simpa [intCmp] using hc
    refine wr_tail hs hl0 rfl ?_
    have e : shiftW w = ⟨w.made, w.low % 16777216 * 256, w.span, w.cache, w.held + 1⟩ := by unfold shiftW; rw [if_neg hc]
    rw [e]
    have := cut_self (h.cl ⟨w.made, w.low % 16777216 * 256, w.span, w.cache, w.held + 1⟩ cb w.made m)
    rw [h.len _ _ _ (wf w cb mb) w.made m] at this
    exact leave_none this
end

noncomputable def shIt (w : W) : Nat → W
  | 0 => w
  | k + 1 => shiftW (shIt w k)
theorem shIt_ok {w : W} (I : WI w 1) : ∀ k, WI (shIt w k) 1 ∧ (shIt w k).k = w.k + k
  | 0 => ⟨I, rfl⟩
  | k + 1 => by
    refine Classical.byContradiction fun hG0 => ?_
    obtain ⟨h1, h2⟩ := shIt_ok I k
    obtain ⟨a, b, c, d⟩ := shift_ok h1 (by decide)
    refine hG0 ?_
    exact ⟨a.less (by decide) (by decide), by show (shiftW (shIt w k)).k = _; rw [c, h2]; (first | lia | omega)⟩
section
variable {N pr : List Int} {n : Nat} {S : List (Nat × AV) → List Int → Int → St} {o d mb j : Nat} {m : Int}
theorem cl_at (h : WC S o d mb j) {w : W} {c c' : Bool} {B : List Int} {m : Int} {D' : List (Nat × AV)} {B' : List Int} {m' : Int} : cutSt (S D' B' m').length (S (wf w c mb) B m) = some (S (wf w c mb) B m) := by
  rw [h.len D' B' m' (wf w c mb) B m]; exact cut_self (h.cl w c B m)
theorem sp_wfill {w : W} {cb : Bool} (h : WC S o d mb j) (I : WI w w.span) (h1 : 253952 ≤ w.span) (h2 : w.span ≤ 4294967295) (hk : w.k ≤ 900) :
    orc N pr (n + 2) 224 [.lab o] (S (wf w cb mb) w.made m) = some (.none, S (wf (fillW w) cb mb) (fillW w).made m) := by
  have hs := h.toWS
  apply fn_eq rfl rfl rfl
  apply wg_iff
  · apply ev_chain
    · apply ev_attr
      · exact ev_var rfl
      · exact attr_at hs rfl
    · exact evc_one ev_glob cmp_int
  · intro hc
    have hc : w.span < 16777216 := by simpa [intCmp] using hc
    have e : fillW w = shiftW { w with span := w.span * 256 } := if_pos hc
    rw [e]
    apply wg_next
    · apply ex_augAttr
      · exact ev_var rfl
      · exact attr_at hs rfl
      · exact ev_int
      · exact ib_shl8 (by (first | omega | lia))
      · exact put_at hs (by decide : 6 ≤ 100)
    · apply wg_next
      · apply ex_exp
        apply ev_meth
        · exact ev_var rfl
        · exact cls_at hs
        · rfl
        · exact evs_nil
        · exact sp_shift (w := { w with span := w.span * 256 }) (s := w.span) (cb := cb) h ⟨I.oct, I.c0, I.c1, I.h1, I.l0, I.s0, I.ls, I.c255⟩ hk
      · exact wg_nil (leave_none (cl_at h (c' := cb)))
  · intro hc
    have hc : ¬ w.span < 16777216 := by simpa [intCmp] using hc
    have e : fillW w = w := if_neg hc
    rw [e]
    exact wg_nil (leave_none (cl_at h (c' := cb)))
theorem sp_need_open {w : W} {B : List Int} (h : WC S o d mb j) : orc N pr (n + 1) 231 [.lab o] (S (wf w false mb) B m) = some (.none, S (wf w false mb) B m) := by
  apply fn_eq rfl rfl rfl
  apply wg_iff (β := false)
  · apply ev_attr
    · exact ev_var rfl
    · exact attr_at h.toWS rfl
  · intro k; cases k
  · intro _
    exact wg_nil (leave_none (cl_at h (c' := false)))
theorem sp_wbit {w : W} {b : Int} (h : WC S o d mb j) (J : WJ w) (hm : V m) (hb : b = 0 ∨ b = 1) (hk : w.k ≤ 900) :
    orc N pr (n + 3) 238 [.lab o, .lab j, .int 0, .int b] (S (wf w false mb) w.made m) = some (.none, S (wf (bitW w m b) false mb) (bitW w m b).made (nextM m b)) := by
  have hs := h.toWS
  obtain ⟨a1, a2, a3, a4, _⟩ := mid_ok J hm hb
  have tail : ∀ η : En, η 0 = some (.lab o) → η 1 = some (.lab j) → η 2 = some (.int 0) → η 3 = some (.int b) → η 4 = some (.int m) →
      Wg (orc N pr (n + 2)) N pr (.cons (.setItem (.var 1) (.var 2) (.call 97 (.cons (.var 4) (.cons (.var 3) .nil)))) (.cons (.exp (.meth (.var 0) 2 .nil)) .nil)) η (S (wf (midW w m b) false mb) w.made m)
        fun fl _ τ => leaveF false (S (wf w false mb) w.made m).length (flv fl) τ = some (.none, S (wf (bitW w m b) false mb) (bitW w m b).made (nextM m b)) := by
    intro η h0 h1 h2 h3 h4
    have hmade : w.made = (midW w m b).made := by unfold midW; split <;> rfl
    apply wg_next
    · apply ex_setItem
      · apply ev_call
        · apply evs_cons
          · exact ev_var h4
          · apply evs_cons
            · exact ev_var h3
            · exact evs_nil
        · exact sp_next (h.cl _ _ _ _)
      · exact ev_var h1
      · exact ev_var h2
      · exact put_item (hs.hj _ _ _) ⟨by decide, by show (0 : Int) < 1; decide, by show 1 ≤ 1048576; decide⟩
    · rw [show [m].set (0 : Int).toNat (nextM m b) = [nextM m b] from rfl, hs.sj]
      apply wg_next
      · apply ex_exp
        apply ev_meth
        · exact ev_var h0
        · exact cls_at hs
        · rfl
        · exact evs_nil
        · rw [hmade]
          exact sp_wfill h a1 a2 a3 (by (first | lia | omega))
      · exact wg_nil (leave_none (cl_at h (c' := false)))
  apply fn_eq rfl rfl rfl
  apply wg_next
  · apply ex_exp
    apply ev_call
    · apply evs_cons
      · exact ev_var rfl
      · exact evs_nil
    · exact sp_need_bit hb (h.cl _ _ _ _)
  · apply wg_next
    · apply ex_exp
      apply ev_meth
      · exact ev_var rfl
      · exact cls_at hs
      · rfl
      · exact evs_nil
      · exact sp_need_open h
    · apply wg_next
      · apply ex_asg
        apply ev_sub
        · exact ev_var rfl
        · exact ev_var rfl
        · exact sub_lab (hs.hj _ _ _) rfl
      · apply wg_next
        · apply ex_asg
          apply ev_bin
          · apply ev_bin
            · apply ev_attr
              · exact ev_var rfl
              · exact attr_at hs rfl
            · exact ev_glob
            · exact bin_int ib_shr11
          · exact ev_var rfl
          · apply bin_int
            apply ib_mul
            right
            have := hm.1; have := hm.2
            (first | lia | omega)
        · apply wg_iff
          · apply ev_chain
            · exact ev_var rfl
            · exact evc_one ev_int cmp_int
          · intro hc
            obtain rfl : b = 0 := by simpa [intCmp] using hc
            apply wg_next
            · apply ex_setAttr
              · exact ev_var rfl
              · exact ev_var rfl
              · exact put_at hs (by decide : 6 ≤ 100)
            · exact tail _ rfl rfl rfl rfl rfl
          · intro hc
            have hc : ¬ b = 0 := by simpa [intCmp] using hc
            obtain rfl : b = 1 := hb.resolve_left hc
            apply wg_next
            · apply ex_augAttr
              · exact ev_var rfl
              · exact attr_at hs rfl
              · exact ev_var rfl
              · rfl
              · exact put_at hs (by decide : 6 ≤ 100)
            · apply wg_next
              · apply ex_augAttr
                · exact ev_var rfl
                · exact attr_at hs rfl
                · exact ev_var rfl
                · rfl
                · exact put_at hs (by decide : 6 ≤ 100)
              · exact tail _ rfl rfl rfl rfl rfl
theorem sp_wdone {w : W} (h : WC S o d mb j) (J : WJ w) (hk : w.k ≤ 800) : orc N pr (n + 2) 273 [.lab o] (S (wf w false mb) w.made m) = some (.bytes (doneW w).made, S (wf (doneW w) true mb) (doneW w).made m) := by
  have hln : lineOf = 1048576 := rfl
  have hs := h.toWS
  have I0 := J.wi.less (t := 1) (by decide) (by have := J.lo; (first | lia | omega))
  have hl : (doneW w).made.length ≤ lineOf := by have := (done_ok J).2.1; (first | lia | omega)
  apply fn_eq rfl rfl rfl
  apply wg_iff (β := true)
  · apply ev_not (i := false)
    apply ev_attr
    · exact ev_var rfl
    · exact attr_at hs rfl
  · intro _
    apply wg_for (l := [0, 1, 2, 3, 4]) (on := none) (fun k η τ => τ = S (wf (shIt w k) false mb) (shIt w k).made m ∧ η 0 = some (.lab o))
    · exact evi_range (n := 5) ev_glob (by decide)
    · exact ⟨rfl, rfl⟩
    · intro _ _ _ _; rfl
    · intro k x η τ hk' ⟨hτ, h0⟩
      have hk5 : k < 5 := (List.getElem?_eq_some_iff.mp hk').1
      subst hτ
      obtain ⟨I, hk2⟩ := shIt_ok I0 k
      apply wg_next
      · apply ex_exp
        apply ev_meth
        · exact ev_var h0
        · exact cls_at hs
        · rfl
        · exact evs_nil
        · exact sp_shift h I (by (first | lia | omega))
      · exact wg_nil ⟨rfl, rfl, h0⟩
    · intro η τ ⟨hτ, h0⟩
      subst hτ
      apply wg_next
      · apply ex_setAttr
        · exact ev_bool
        · exact ev_var h0
        · exact put_at hs (by decide : 6 ≤ 100)
      · apply wg_ret
        · apply ev_b1
          · apply ev_attr
            · exact ev_var h0
            · exact attr_at hs rfl
          · exact b1_bytesr (hs.hb _ _ _) hl
        · exact leave_bytes (cl_at h (w := doneW w) (c := true) (c' := false))
  · intro k; cases k
end

noncomputable def rf (D : List Int) (place span code : Int) : List (Nat × AV) := [(0, .bytes D), (1, .int D.length), (2, .int 0), (3, .int place), (4, .int span), (5, .int code)]
/-- a reader, wherever it lies -/
structure RS (S : List (Nat × AV) → St) (o d : Nat) : Prop where
  ho : ∀ F, (S F)[o]? = some (.inst 192 d)
  hd : ∀ F, (S F)[d]? = some (.dict F)
  sd : ∀ F F', (S F).set d (.dict F') = S F'
  cl : ∀ D p s c, Cl (S (rf D p s c))
  len : ∀ F F', (S F).length = (S F').length
theorem num_lt {l : List Int} (h : Oct l) : 0 ≤ num l ∧ num l < 256 ^ l.length := by
  have := numF_bounds l 0 h
  rw [Int.zero_mul, Int.zero_add, Int.one_mul] at this
  exact this
section
variable {O : Orc} {N pr : List Int} {n : Nat} {S : List (Nat × AV) → St} {o d : Nat} {F : List (Nat × AV)} {D : List Int} {η : En} {v : AV}
theorem rattr_at (h : RS S o d) {k : Nat} (hl : F.lookup k = some v) : attrOf (S F) (.lab o) k = some v := by
  unfold attrOf; simp only [h.ho, h.hd]; exact hl
theorem rput_at (h : RS S o d) {k : Nat} (hl : F.length ≤ 100) : putAttr (S F) (.lab o) k v = some (S (putFld F k v)) := by
  unfold putAttr; simp only [h.ho, h.hd, if_pos hl, h.sd]
theorem rcls_at (h : RS S o d) : clsOf (S F) (.lab o) = some 192 := by unfold clsOf; simp only [h.ho, h.hd]
theorem rcl_at (h : RS S o d) {F' : List (Nat × AV)} {p s c : Int} : cutSt (S F').length (S (rf D p s c)) = some (S (rf D p s c)) := by
  rw [h.len F' (rf D p s c)]; exact cut_self (h.cl D p s c)
theorem sp_octet {p : Nat} {s c x : Int} (h : RS S o d) (hl : D.length ≤ 900) (hp : D[p]? = some x) : orc N pr (n + 1) 133 [.lab o] (S (rf D p s c)) = some (.int x, S (rf D (p + 1) s c)) := by
  have hln : lineOf = 1048576 := rfl
  have hlt := (List.getElem?_eq_some_iff.mp hp).1
  apply fn_eq rfl rfl rfl
  apply wg_iff (β := false)
  · apply ev_chain
    · apply ev_attr
      · exact ev_var rfl
      · exact rattr_at h rfl
    · apply evc_one
      · apply ev_attr
        · exact ev_var rfl
        · exact rattr_at h rfl
      · exact congrArg some (decide_eq_false (by (first | lia | omega)))
  · intro k; cases k
  · intro _
    apply wg_next
    · apply ex_augAttr
      · exact ev_var rfl
      · exact rattr_at h rfl
      · exact ev_int
      · rfl
      · exact rput_at h (by decide : 6 ≤ 100)
    · apply wg_ret
      · apply ev_sub
        · apply ev_attr
          · exact ev_var rfl
          · exact rattr_at h rfl
        · apply ev_bin
          · apply ev_attr
            · exact ev_var rfl
            · exact rattr_at h rfl
          · exact ev_int
          · exact bin_int rfl
        · apply sub_bytes
          · (first | lia | omega)
          · rw [show ((p : Int) + 1 - 1).toNat = p by (first | lia | omega)]; exact hp
      · exact leave_int (rcl_at h)
theorem sp_rfill {p : Nat} {s c : Int} (h : RS S o d) (hs : 0 ≤ s) (hc : 0 ≤ c ∧ c < 4294967296) (hl : D.length ≤ 900) (q : s < 16777216 → ∃ x, D[p]? = some x ∧ 0 ≤ x ∧ x < 256) :
    ∃ r, orc N pr (n + 2) 161 [.lab o] (S (rf D p s c)) = some r ∧ ((s < 16777216 ∧ ∃ x, D[p]? = some x ∧ r = (.none, S (rf D (p + 1) (s * 256) (c * 256 + x)))) ∨ (¬ s < 16777216 ∧ r = (.none, S (rf D p s c)))) := by
  apply fn_ex rfl rfl rfl
  apply wg_iff
  · apply ev_chain
    · apply ev_attr
      · exact ev_var rfl
      · exact rattr_at h rfl
    · exact evc_one ev_glob cmp_int
  · intro hc'
    refine Classical.byContradiction fun hG0 => ?_
    have hc' : s < 16777216 := by simpa [intCmp] using hc'
    obtain ⟨x, hx, hx0, hx1⟩ := q hc'
    refine hG0 ?_
    apply wg_next
    · apply ex_augAttr
      · exact ev_var rfl
      · exact rattr_at h rfl
      · exact ev_int
      · exact ib_shl8 (by (first | lia | omega))
      · exact rput_at h (by decide : 6 ≤ 100)
    · apply wg_next
      · apply ex_setAttr
        · apply ev_bin
          · apply ev_bin
            · apply ev_attr
              · exact ev_var rfl
              · exact rattr_at h rfl
            · exact ev_int
            · exact bin_int (ib_shl8 (by (first | lia | omega)))
          · apply ev_meth
            · exact ev_var rfl
            · exact rcls_at h
            · rfl
            · exact evs_nil
            · exact sp_octet (s := s * 256) (c := c) h hl hx
          · exact bin_int rfl
        · exact ev_var rfl
        · rw [bor8 hc.1 hx0 hx1]
          exact rput_at h (by decide : 6 ≤ 100)
      · exact wg_nil ⟨_, leave_none (rcl_at h (D := D) (p := p + 1) (s := s * 256) (c := c * 256 + x)), .inl ⟨hc', x, hx, rfl⟩⟩
  · intro hc'
    have hc' : ¬ s < 16777216 := by simpa [intCmp] using hc'
    exact wg_nil ⟨_, leave_none (rcl_at h (D := D) (p := p) (s := s) (c := c)), .inr ⟨hc', rfl⟩⟩
theorem sp_rinit (h : RS S o d) (hO : Oct D) (h5 : 5 ≤ D.length) (hl : D.length ≤ 900) (h0 : ∃ d1 d2 d3 d4, D.take 5 = [0, d1, d2, d3, d4]) (hn : num (D.take 5) < 4294967295) :
    orc N pr (n + 2) 126 [.lab o, .bytes D] (S []) = some (.none, S (rf D 5 4294967295 (num (D.take 5)))) := by
  have hln : lineOf = 1048576 := rfl
  have hD0 : D[0]? = some 0 := by
    obtain ⟨d1, d2, d3, d4, e⟩ := h0
    have : (D.take 5)[0]? = some 0 := by rw [e]; rfl
    rwa [List.getElem?_take_of_lt (by decide)] at this
  apply fn_eq rfl rfl rfl
  apply wg_next
  · apply ex_setAttr
    · apply ev_b1
      · exact ev_var rfl
      · exact b1_bytesb
    · exact ev_var rfl
    · exact rput_at h (by decide : 0 ≤ 100)
  · apply wg_next
    · apply ex_setAttr
      · apply ev_ite_t
        · exact ev_isNone_n (ev_var rfl)
        · rfl
        · apply ev_b1
          · apply ev_attr
            · exact ev_var rfl
            · exact rattr_at h rfl
          · exact b1_lenb (by (first | lia | omega))
      · exact ev_var rfl
      · exact rput_at h (by decide : 1 ≤ 100)
    · apply wg_iff (β := false)
      · apply ev_not (i := true)
        apply ev_chain ev_int
        apply evc_more (β := true)
        · exact ev_var rfl
        · rfl
        · rfl
        · apply evc_more (β := true)
          · apply ev_attr
            · exact ev_var rfl
            · exact rattr_at h rfl
          · show some (decide ((0 : Int) ≤ (D.length : Int))) = some true
            rw [decide_eq_true (by (first | lia | omega))]
          · rfl
          · apply evc_one
            · apply ev_b1
              · apply ev_attr
                · exact ev_var rfl
                · exact rattr_at h rfl
              · exact b1_lenb (by (first | lia | omega))
            · exact congrArg some (decide_eq_true (Int.le_refl _))
      · intro k; cases k
      · intro _
        apply wg_next
        · apply ex_setAttr
          · exact ev_var rfl
          · exact ev_var rfl
          · exact rput_at h (by decide : 2 ≤ 100)
        · apply wg_next
          · apply ex_setAttr
            · exact ev_var rfl
            · exact ev_var rfl
            · exact rput_at h (by decide : 3 ≤ 100)
          · apply wg_next
            · apply ex_setAttr
              · exact ev_glob
              · exact ev_var rfl
              · exact rput_at h (by decide : 4 ≤ 100)
            · apply wg_next
              · apply ex_setAttr
                · exact ev_int
                · exact ev_var rfl
                · exact rput_at h (by decide : 5 ≤ 100)
              · apply wg_iff (β := false)
                · apply ev_chain
                  · apply ev_meth
                    · exact ev_var rfl
                    · exact rcls_at h
                    · rfl
                    · exact evs_nil
                    · exact sp_octet (p := 0) (s := 4294967295) (c := 0) h hl hD0
                  · exact evc_one ev_int rfl
                · intro k; cases k
                · intro _
                  apply wg_for (l := [0, 1, 2, 3]) (on := none) (fun k η τ => τ = S (rf D ((k : Int) + 1) 4294967295 (num (D.take (k + 1)))) ∧ η 0 = some (.lab o))
                  · exact evi_range (n := 4) (ev_bin ev_glob ev_int (show binv .sub (.int 5) (.int 1) _ = some (.int 4, _) from rfl)) (by decide)
                  · refine ⟨?_, rfl⟩
                    have e : num (D.take (0 + 1)) = 0 := by rw [take_num hD0]; rfl
                    rw [e]
                  · intro _ _ _ _; rfl
                  · intro k x η τ hk ⟨hτ, g0⟩
                    subst hτ
                    have hk4 : k < 4 := (List.getElem?_eq_some_iff.mp hk).1
                    have hx : D[k + 1]? = some D[k + 1] := List.getElem?_eq_getElem _
                    have hxo := hO _ (List.getElem_mem (l := D) (n := k + 1) (by (first | lia | omega)))
                    generalize D[k + 1]'(by (first | lia | omega)) = y at hx hxo
                    obtain ⟨n0, n1⟩ := num_lt (l := D.take (k + 1)) fun z hz => hO z (List.mem_of_mem_take hz)
                    have n2 : num (D.take (k + 1)) < 4294967296 := by
                      rw [List.length_take, show min (k + 1) D.length = k + 1 by (first | lia | omega)] at n1
                      have hk : k = 0 ∨ k = 1 ∨ k = 2 ∨ k = 3 := by (first | lia | omega)
                      rcases hk with rfl | rfl | rfl | rfl <;> exact Int.lt_of_lt_of_le n1 (by decide)
                    apply wg_next
                    · apply ex_setAttr
                      · apply ev_bin
                        · apply ev_bin
                          · apply ev_attr
                            · exact ev_var g0
                            · exact rattr_at h rfl
                          · exact ev_int
                          · exact bin_int (ib_shl8 (by (first | lia | omega)))
                        · apply ev_meth
                          · exact ev_var g0
                          · exact rcls_at h
                          · rfl
                          · exact evs_nil
                          · exact sp_octet (p := k + 1) (s := 4294967295) (c := num (D.take (k + 1))) h hl hx
                        · exact bin_int rfl
                      · exact ev_var g0
                      · rw [bor8 n0 hxo.1 hxo.2]
                        exact rput_at h (by decide : 6 ≤ 100)
                    · apply wg_nil
                      refine ⟨rfl, ?_, g0⟩
                      rw [take_num hx]; rfl
                  · intro η τ ⟨hτ, g0⟩
                    subst hτ
                    apply wg_iff (β := false)
                    · apply ev_chain
                      · apply ev_attr
                        · exact ev_var g0
                        · exact rattr_at h rfl
                      · apply evc_one
                        · apply ev_attr
                          · exact ev_var g0
                          · exact rattr_at h rfl
                        · exact congrArg some (beq_eq_false_iff_ne.mpr (show num (D.take 5) ≠ 4294967295 by (first | lia | omega)))
                    · intro k; cases k
                    · intro _
                      exact wg_nil leave_keep
end
/-- the reader's place in the text -/
noncomputable def rfAt (D : List Int) (p : W × Int) : List (Nat × AV) := rf D ((p.1.k + 5 : Nat) : Int) p.1.span (num (D.take (p.1.k + 5)) - p.1.val)
section
variable {N pr : List Int} {n : Nat} {S : List (Nat × AV) → Int → St} {o d j : Nat} {D : List Int}
theorem sp_rbit {p : W × Int} {b : Int} {t : List Int} (h : ∀ m, RS (fun F => S F m) o d) (hj : ∀ F m, (S F m)[j]? = some (.list [m])) (sj : ∀ F m m', (S F m).set j (.list [m']) = S F m') (hlen : ∀ F m F' m', (S F m).length = (S F' m').length)
    (J : WJ p.1) (hm : V p.2) (hb : B01 (b :: t)) (hD : D = (doneW (encF p (b :: t)).1).made) (hl : D.length ≤ 900) :
    orc N pr (n + 3) 168 [.lab o, .lab j, .int 0] (S (rfAt D p) p.2) = some (.int b, S (rfAt D (encStep p b)) (encStep p b).2) := by
  obtain ⟨s1, s2, s3, s4, s5⟩ := read_step J hm hb hD
  obtain ⟨a1, a2, a3, a4, a5, a6, a7, a8⟩ := mid_ok J hm hb.cons.1
  have hb0 := hb.cons.1
  have tail : ∀ η : En, η 0 = some (.lab o) → η 1 = some (.lab j) → η 2 = some (.int 0) → η 3 = some (.int p.2) → η 5 = some (.int b) →
      Wg (orc N pr (n + 2)) N pr (.cons (.setItem (.var 1) (.var 2) (.call 97 (.cons (.var 3) (.cons (.var 5) .nil)))) (.cons (.exp (.meth (.var 0) 2 .nil)) (.cons (.ret (.var 5)) .nil))) η
        (S (rf D ((p.1.k + 5 : Nat) : Int) (midW p.1 p.2 b).span (num (D.take (p.1.k + 5)) - (midW p.1 p.2 b).val)) p.2)
        fun fl _ τ => leaveF false (S (rfAt D p) p.2).length (flv fl) τ = some (.int b, S (rfAt D (encStep p b)) (encStep p b).2) := by
    intro η h0 h1 h2 h3 h5
    obtain ⟨r, e, hr⟩ := sp_rfill (N := N) (pr := pr) (n := n) (h (encStep p b).2) (p := p.1.k + 5) (s := (midW p.1 p.2 b).span) (c := num (D.take (p.1.k + 5)) - (midW p.1 p.2 b).val) (D := D) (by (first | lia | omega)) s3 hl
      fun hlt => by obtain ⟨x, q1, q2, q3, _⟩ := s4 hlt; exact ⟨x, q1, q2, q3⟩
    have hr : r = (.none, S (rfAt D (encStep p b)) (encStep p b).2) := by
      rcases hr with ⟨hlt, x, q1, q2⟩ | ⟨hlt, q2⟩
      · obtain ⟨y, r1, r2, r3, _, r4, r5, r6⟩ := s4 hlt
        rw [q1] at r1; cases r1
        rw [q2]
        unfold rfAt
        rw [← r6, r4, r5]
        rfl
      · obtain ⟨r1, r2⟩ := s5 hlt
        rw [q2]
        unfold rfAt
        rw [r1, a4]
    subst hr
    apply wg_next
    · apply ex_setItem
      · apply ev_call
        · apply evs_cons
          · exact ev_var h3
          · apply evs_cons
            · exact ev_var h5
            · exact evs_nil
        · exact sp_next ((h p.2).cl _ _ _ _)
      · exact ev_var h1
      · exact ev_var h2
      · exact put_item (hj _ _) ⟨by decide, by show (0 : Int) < 1; decide, by show 1 ≤ 1048576; decide⟩
    · rw [show [p.2].set (0 : Int).toNat (nextM p.2 b) = [(encStep p b).2] from rfl, sj]
      apply wg_next
      · apply ex_exp
        apply ev_meth
        · exact ev_var h0
        · exact rcls_at (h _)
        · rfl
        · exact evs_nil
        · exact e
      · apply wg_ret
        · exact ev_var h5
        · rw [hlen (rfAt D p) p.2 (rfAt D (encStep p b)) (encStep p b).2]
          exact leave_int (cut_self ((h _).cl _ _ _ _))
  apply fn_eq rfl rfl rfl
  apply wg_next
  · apply ex_asg
    apply ev_sub
    · exact ev_var rfl
    · exact ev_var rfl
    · exact sub_lab (hj _ _) rfl
  · apply wg_next
    · apply ex_asg
      apply ev_bin
      · apply ev_bin
        · apply ev_attr
          · exact ev_var rfl
          · exact rattr_at (h _) rfl
        · exact ev_glob
        · exact bin_int ib_shr11
      · exact ev_var rfl
      · apply bin_int
        apply ib_mul
        right
        have := hm.1; have := hm.2
        (first | lia | omega)
    · apply wg_next (η1 := upd (upd (upd (enter [.lab o, .lab j, .int 0]) 3 (.int p.2)) 4 (.int (boundW p.1 p.2))) 5 (.int b)) (σ1 := S (rfAt D p) p.2)
      · have e : (if decide (boundW p.1 p.2 ≤ num (D.take (p.1.k + 5)) - p.1.val) = true then (1 : Int) else 0) = b := by
          rcases hb0 with rfl | rfl
          · exact if_neg (by have := s1 rfl; simp; (first | lia | omega))
          · exact if_pos (by have := s2 rfl; simp; (first | lia | omega))
        apply ex_asg
        apply ev_b1
        · apply ev_chain
          · apply ev_attr
            · exact ev_var rfl
            · exact rattr_at (h _) rfl
          · exact evc_one (ev_var rfl) cmp_int
        · show some (AV.int (if decide (boundW p.1 p.2 ≤ num (D.take (p.1.k + 5)) - p.1.val) = true then (1 : Int) else 0), _) = _
          rw [e]
      · apply wg_iff
        · apply ev_chain
          · exact ev_var rfl
          · exact evc_one ev_int cmp_int
        · intro hc
          obtain rfl : b = 0 := by simpa [intCmp] using hc
          obtain ⟨e1, e2⟩ := a7 rfl
          apply wg_next
          · apply ex_setAttr
            · exact ev_var rfl
            · exact ev_var rfl
            · exact rput_at (h _) (by decide : 6 ≤ 100)
          · rw [e1, e2] at tail
            exact tail _ rfl rfl rfl rfl rfl
        · intro hc
          have hc : ¬ b = 0 := by simpa [intCmp] using hc
          obtain rfl : b = 1 := hb0.resolve_left hc
          obtain ⟨e1, e2⟩ := a8 rfl
          apply wg_next
          · apply ex_augAttr
            · exact ev_var rfl
            · exact rattr_at (h _) rfl
            · exact ev_var rfl
            · rfl
            · exact rput_at (h _) (by decide : 6 ≤ 100)
          · apply wg_next
            · apply ex_augAttr
              · exact ev_var rfl
              · exact rattr_at (h _) rfl
              · exact ev_var rfl
              · rfl
              · exact rput_at (h _) (by decide : 6 ≤ 100)
            · rw [e1, e2, show num (D.take (p.1.k + 5)) - (p.1.val + boundW p.1 p.2) = num (D.take (p.1.k + 5)) - p.1.val - boundW p.1 p.2 by (first | lia | omega)] at tail
              exact tail _ rfl rfl rfl rfl rfl
end

theorem ga (P l : St) (i : Nat) : (P ++ l)[P.length + i]? = l[i]? := by rw [List.getElem?_append_right (Nat.le_add_right _ _), Nat.add_sub_cancel_left]
theorem sa (P l : St) (i : Nat) (x : AO) : (P ++ l).set (P.length + i) x = P ++ l.set i x := by rw [List.set_append_right _ _ (Nat.le_add_right _ _), Nat.add_sub_cancel_left]
theorem gl {P : St} {i : Nat} {x : AO} (l : St) (h : P[i]? = some x) : (P ++ l)[i]? = some x := by rw [List.getElem?_append_left (List.getElem?_eq_some_iff.mp h).1]; exact h
theorem new_app {P L : St} {l : List Int} {k : Nat} (hk : L.length = k) (h : l.length ≤ lineOf) : newL (P ++ L) l = some (.lab (P.length + k), P ++ (L ++ [.list l])) := by
  rw [new_list h, List.length_append, hk, List.append_assoc]
theorem okAO_up {n k : Nat} {o : AO} (h : okAO n o = true) : okAO (n + k) o = true := by
  cases o <;> first | rfl | skip
  · exact decide_eq_true (Nat.lt_of_lt_of_le (of_decide_eq_true h) (Nat.le_add_right _ _))
  · refine List.all_eq_true.mpr fun y hy => ?_
    have := List.all_eq_true.mp (show List.all _ _ = true from h) y hy
    obtain ⟨a, v⟩ := y
    cases v <;> first | rfl | exact decide_eq_true (Nat.lt_of_lt_of_le (of_decide_eq_true this) (Nat.le_add_right _ _))
theorem cl_app {P L : St} (h : Cl P) (k : L.all (okAO (P.length + L.length)) = true) : Cl (P ++ L) := by
  unfold Cl at h ⊢
  rw [List.all_append, Bool.and_eq_true, List.length_append]
  exact ⟨List.all_eq_true.mpr fun x hx => okAO_up (List.all_eq_true.mp h x hx), k⟩
theorem ok_rf {n : Nat} {D : List Int} {p s c : Int} : okAO n (.dict (rf D p s c)) = true := rfl
theorem ok_inst {n c d : Nat} (h : d < n) : okAO n (.inst c d) = true := decide_eq_true h
section
variable {N pr : List Int} {n : Nat}
theorem sp_wnew (σ : St) : orc N pr (n + 2) 276 [] σ = some (.lab (σ.length + 1), σ ++ [.dict (wf w0 false (σ.length + 2)), .inst 276 σ.length, .barr []]) := by
  apply orc_new rfl
  apply fn_eq rfl rfl rfl
  have put : ∀ (F : List (Nat × AV)) (k : Nat) (v : AV) (L : St), F.length ≤ 100 → putAttr (σ ++ (.dict F :: .inst 276 σ.length :: L)) (.lab (σ.length + 1)) k v = some (σ ++ (.dict (putFld F k v) :: .inst 276 σ.length :: L)) := by
    intro F k v L hF
    unfold putAttr
    have h1 : (σ ++ (AO.dict F :: .inst 276 σ.length :: L))[σ.length + 1]? = some (.inst 276 σ.length) := ga σ _ 1
    have h2 : (σ ++ (AO.dict F :: .inst 276 σ.length :: L))[σ.length]? = some (.dict F) := ga σ _ 0
    simp only [h1, h2, if_pos hF]
    exact congrArg some (sa σ _ 0 _)
  apply wg_next (σ1 := σ ++ [.dict [(6, .lab (σ.length + 2))], .inst 276 σ.length, .barr []])
  · apply ex_setAttr
    · exact ev_barr0
    · exact ev_var rfl
    · rw [List.append_assoc, List.length_append]
      exact put [] 6 _ _ (by decide)
  · apply wg_next
    · apply ex_setAttr
      · exact ev_int
      · exact ev_var rfl
      · exact put _ _ _ _ (by decide : 1 ≤ 100)
    · apply wg_next
      · apply ex_setAttr
        · exact ev_glob
        · exact ev_var rfl
        · exact put _ _ _ _ (by decide : 2 ≤ 100)
      · apply wg_next
        · apply ex_setAttr
          · exact ev_int
          · exact ev_var rfl
          · exact put _ _ _ _ (by decide : 3 ≤ 100)
        · apply wg_next
          · apply ex_setAttr
            · exact ev_int
            · exact ev_var rfl
            · exact put _ _ _ _ (by decide : 4 ≤ 100)
          · apply wg_next
            · apply ex_setAttr
              · exact ev_bool
              · exact ev_var rfl
              · exact put _ _ _ _ (by decide : 5 ≤ 100)
            · exact wg_nil leave_keep
theorem sp_rnew {σ : St} {D : List Int} (h : Cl σ) (hO : Oct D) (h5 : 5 ≤ D.length) (hl : D.length ≤ 900) (h0 : ∃ d1 d2 d3 d4, D.take 5 = [0, d1, d2, d3, d4]) (hn : num (D.take 5) < 4294967295) :
    orc N pr (n + 3) 192 [.bytes D] σ = some (.lab (σ.length + 1), σ ++ [.dict (rf D 5 4294967295 (num (D.take 5))), .inst 192 σ.length]) := by
  apply orc_new rfl
  exact sp_rinit (S := fun F => σ ++ [.dict F, .inst 192 σ.length]) (d := σ.length) ⟨fun F => ga σ _ 1, fun F => ga σ _ 0, fun F F' => sa σ _ 0 _, fun D p s c => cl_app h (by
    rw [List.all_cons, List.all_cons, ok_rf, ok_inst (n := σ.length + [AO.dict (rf D p s c), AO.inst 192 σ.length].length) (Nat.lt_add_of_pos_right (Nat.succ_pos 1))]; rfl), fun F F' => by rw [List.length_append, List.length_append]; rfl⟩ hO h5 hl h0 hn

/-! the writers' loop -/
structure S3OK (S : List (Nat × AV) → List Int → List (Nat × AV) → List Int → List (Nat × AV) → List Int → Int → Int → Int → St) (o1 d1 m1 o2 d2 m2 o3 d3 m3 ja jh jt tl : Nat) (text : List Int) : Prop where
  f1 : ∀ w2 c2 B2 w3 c3 B3 h t, WC (fun D B a => S D B (wf w2 c2 m2) B2 (wf w3 c3 m3) B3 a h t) o1 d1 m1 ja
  f2h : ∀ w1 c1 B1 w3 c3 B3 a t, WC (fun D B h => S (wf w1 c1 m1) B1 D B (wf w3 c3 m3) B3 a h t) o2 d2 m2 jh
  f2t : ∀ w1 c1 B1 w3 c3 B3 a h, WC (fun D B t => S (wf w1 c1 m1) B1 D B (wf w3 c3 m3) B3 a h t) o2 d2 m2 jt
  f3 : ∀ w1 c1 B1 w2 c2 B2 a h, WC (fun D B t => S (wf w1 c1 m1) B1 (wf w2 c2 m2) B2 D B a h t) o3 d3 m3 jt
  tx : ∀ D1 B1 D2 B2 D3 B3 a h t, (S D1 B1 D2 B2 D3 B3 a h t)[tl]? = some (.list text)
noncomputable def cBody : Ss := .cons (.exp (.meth (.var 11) 3 (.cons (.var 14) (.cons (.int 0) (.cons (.var 5) .nil))))) (.cons (.exp (.meth (.var 12) 3 (.cons (.ite (.chain (.var 17) (.one .lt (.var 10))) (.var 15) (.var 16)) (.cons (.int 0) (.cons (.var 5) .nil))))) (.cons (.iff (.chain (.var 17) (.one .lt (.var 10))) (.cons (.exp (.meth (.var 13) 3 (.cons (.var 16) (.cons (.int 0) (.cons (.var 5) .nil))))) .nil) .nil) .nil))
structure CEnv (η : En) (o1 o2 o3 ja jh jt tl F : Nat) (lo hi : Int) (text : List Int) : Prop where
  e0 : η 0 = some (.lab 1)
  e4 : η 4 = some (.lab tl)
  e8 : η 8 = some (.int (ledF lo text))
  e9 : η 9 = some (.int (ledF hi text))
  e10 : η 10 = some (.int F)
  e11 : η 11 = some (.lab o1)
  e12 : η 12 = some (.lab o2)
  e13 : η 13 = some (.lab o3)
  e14 : η 14 = some (.lab ja)
  e15 : η 15 = some (.lab jh)
  e16 : η 16 = some (.lab jt)
section
variable {S : List (Nat × AV) → List Int → List (Nat × AV) → List Int → List (Nat × AV) → List Int → Int → Int → Int → St} {o1 d1 m1 o2 d2 m2 o3 d3 m3 ja jh jt tl F : Nat} {text : List Int} {lo hi : Int}
/-- the state behind k turns -/
noncomputable def stK (S : List (Nat × AV) → List Int → List (Nat × AV) → List Int → List (Nat × AV) → List Int → Int → Int → Int → St) (m1 m2 m3 F : Nat) (lo hi : Int) (text : List Int) (k : Nat) : St :=
  S (wf (encF (w0, lo) (text.take k)).1 false m1) (encF (w0, lo) (text.take k)).1.made (wf (encF (w0, lo) (text.take k)).1 false m2) (encF (w0, lo) (text.take k)).1.made
    (wf (encF (w0, hi) (text.take (min k F))).1 false m3) (encF (w0, hi) (text.take (min k F))).1.made (ledF lo (text.take k)) (ledF lo (text.take (min k F))) (ledF hi (text.take k))
theorem CEnv.up {η : En} (E : CEnv η o1 o2 o3 ja jh jt tl F lo hi text) (y z : AV) : CEnv (upd (upd η 17 y) 5 z) o1 o2 o3 ja jh jt tl F lo hi text := ⟨E.e0, E.e4, E.e8, E.e9, E.e10, E.e11, E.e12, E.e13, E.e14, E.e15, E.e16⟩
/-- a turn ahead of F -/
theorem w_ahead {η : En} {w q : W} {a t x : Int} {k : Nat} (C : S3OK S o1 d1 m1 o2 d2 m2 o3 d3 m3 ja jh jt tl text) (E : CEnv η o1 o2 o3 ja jh jt tl F lo hi text) (J : WJ w) (JQ : WJ q) (Va : V a) (Vt : V t) (hx : x = 0 ∨ x = 1) (hw : w.k ≤ 900) (hq : q.k ≤ 900) (hk : k < F) :
    Wg (orc N pr (n + 3)) N pr cBody (upd (upd η 17 (.int k)) 5 (.int x)) (S (wf w false m1) w.made (wf w false m2) w.made (wf q false m3) q.made a a t) fun fl η' τ => fl = .next ∧
      τ = S (wf (bitW w a x) false m1) (bitW w a x).made (wf (bitW w a x) false m2) (bitW w a x).made (wf (bitW q t x) false m3) (bitW q t x).made (nextM a x) (nextM a x) (nextM t x) ∧ CEnv η' o1 o2 o3 ja jh jt tl F lo hi text := by
  have C1 := C.f1 w false w.made q false q.made a t
  have C2 := C.f2h (bitW w a x) false (bitW w a x).made q false q.made (nextM a x) t
  have C3 := C.f3 (bitW w a x) false (bitW w a x).made (bitW w a x) false (bitW w a x).made (nextM a x) (nextM a x)
  have b1 := sp_wbit (N := N) (pr := pr) (n := n) C1 J Va hx hw
  have b2 := sp_wbit (N := N) (pr := pr) (n := n) C2 J Va hx hw
  have b3 := sp_wbit (N := N) (pr := pr) (n := n) C3 JQ Vt hx hq
  have c1 := cls_at (D := wf w false m1) (B := w.made) (m := a) C1.toWS
  have c2 := cls_at (D := wf w false m2) (B := w.made) (m := a) C2.toWS
  have c3 := cls_at (D := wf q false m3) (B := q.made) (m := t) C3.toWS
  have E' := E.up (.int k) (.int x)
  generalize hη : upd (upd η 17 (.int k)) 5 (.int x) = ζ at E' ⊢
  have z5 : ζ 5 = some (.int x) := by rw [← hη]; rfl
  have z17 : ζ 17 = some (.int k) := by rw [← hη]; rfl
  apply wg_next
  · apply ex_exp
    apply ev_meth
    · exact ev_var E'.e11
    · exact c1
    · rfl
    · exact evs_cons (ev_var E'.e14) (evs_cons ev_int (evs_cons (ev_var z5) evs_nil))
    · exact b1
  · apply wg_next
    · apply ex_exp
      apply ev_meth
      · exact ev_var E'.e12
      · exact c2
      · rfl
      · exact evs_cons (ev_ite_t (ev_chain (ev_var z17) (evc_one (ev_var E'.e10) cmp_int)) (lt_cast hk) (ev_var E'.e15)) (evs_cons ev_int (evs_cons (ev_var z5) evs_nil))
      · exact b2
    · apply wg_iff (β := true)
      · exact ev_chain (ev_var z17) (evc_one (ev_var E'.e10) (congrArg some (lt_cast hk)))
      · intro _
        apply wg_next
        · apply ex_exp
          apply ev_meth
          · exact ev_var E'.e13
          · exact c3
          · rfl
          · exact evs_cons (ev_var E'.e16) (evs_cons ev_int (evs_cons (ev_var z5) evs_nil))
          · exact b3
        · exact wg_nil ⟨rfl, rfl, E'⟩
      · intro h; cases h
/-- a turn from F on -/
theorem w_behind {η : En} {w q : W} {a h x : Int} {k : Nat} (C : S3OK S o1 d1 m1 o2 d2 m2 o3 d3 m3 ja jh jt tl text) (E : CEnv η o1 o2 o3 ja jh jt tl F lo hi text) (J : WJ w) (Va : V a) (hx : x = 0 ∨ x = 1) (hw : w.k ≤ 900) (hk : ¬ k < F) :
    Wg (orc N pr (n + 3)) N pr cBody (upd (upd η 17 (.int k)) 5 (.int x)) (S (wf w false m1) w.made (wf w false m2) w.made (wf q false m3) q.made a h a) fun fl η' τ => fl = .next ∧
      τ = S (wf (bitW w a x) false m1) (bitW w a x).made (wf (bitW w a x) false m2) (bitW w a x).made (wf q false m3) q.made (nextM a x) h (nextM a x) ∧ CEnv η' o1 o2 o3 ja jh jt tl F lo hi text := by
  have C1 := C.f1 w false w.made q false q.made h a
  have C2 := C.f2t (bitW w a x) false (bitW w a x).made q false q.made (nextM a x) h
  have b1 := sp_wbit (N := N) (pr := pr) (n := n) C1 J Va hx hw
  have b2 := sp_wbit (N := N) (pr := pr) (n := n) C2 J Va hx hw
  have c1 := cls_at (D := wf w false m1) (B := w.made) (m := a) C1.toWS
  have c2 := cls_at (D := wf w false m2) (B := w.made) (m := a) C2.toWS
  have E' := E.up (.int k) (.int x)
  generalize hη : upd (upd η 17 (.int k)) 5 (.int x) = ζ at E' ⊢
  have z5 : ζ 5 = some (.int x) := by rw [← hη]; rfl
  have z17 : ζ 17 = some (.int k) := by rw [← hη]; rfl
  apply wg_next
  · apply ex_exp
    apply ev_meth
    · exact ev_var E'.e11
    · exact c1
    · rfl
    · exact evs_cons (ev_var E'.e14) (evs_cons ev_int (evs_cons (ev_var z5) evs_nil))
    · exact b1
  · apply wg_next
    · apply ex_exp
      apply ev_meth
      · exact ev_var E'.e12
      · exact c2
      · rfl
      · exact evs_cons (ev_ite_f (ev_chain (ev_var z17) (evc_one (ev_var E'.e10) cmp_int)) (nlt_cast hk) (ev_var E'.e16)) (evs_cons ev_int (evs_cons (ev_var z5) evs_nil))
      · exact b2
    · apply wg_iff (β := false)
      · exact ev_chain (ev_var z17) (evc_one (ev_var E'.e10) (congrArg some (nlt_cast hk)))
      · intro h; cases h
      · intro _
        exact wg_nil ⟨rfl, rfl, E'⟩
theorem writers_loop {η : En} {r : Ss} {Q : Fl → En → St → Prop} (C : S3OK S o1 d1 m1 o2 d2 m2 o3 d3 m3 ja jh jt tl text) (E : CEnv η o1 o2 o3 ja jh jt tl F lo hi text) (hlo : V lo) (hhi : V hi) (hb : B01 text) (hl : text.length ≤ 800)
    (hF : FP lo hi text text.length F) (q : ∀ η', CEnv η' o1 o2 o3 ja jh jt tl F lo hi text → Wg (orc N pr (n + 3)) N pr r η' (stK S m1 m2 m3 F lo hi text text.length) Q) :
    Wg (orc N pr (n + 3)) N pr (.cons (.forEnum 17 5 (.var 4) cBody) r) η (stK S m1 m2 m3 F lo hi text 0) Q := by
  apply wg_forEnum (l := text) (n := tl) (fun k η τ => τ = stK S m1 m2 m3 F lo hi text k ∧ CEnv η o1 o2 o3 ja jh jt tl F lo hi text)
  · exact ev_var E.e4
  · exact C.tx _ _ _ _ _ _ _ _ _
  · exact ⟨rfl, E⟩
  · intro k η τ ⟨hτ, _⟩
    subst hτ
    unfold isL stK
    simp only [C.tx]
    exact beq_self_eq_true text
  · intro k x η τ hk ⟨hτ, E⟩
    subst hτ
    obtain ⟨hkl, _⟩ := List.getElem?_eq_some_iff.mp hk
    have hx := hb x (List.mem_of_getElem? hk)
    have hbk := hb.take k
    obtain ⟨J1, V1, _⟩ := enc_ok (text.take k) (w0, lo) w0_ok hlo hbk
    have k1 : (encF (w0, lo) (text.take k)).1.k ≤ 900 := Nat.le_trans (bits_len (t := text.take k) hlo hbk) (Nat.le_trans (List.length_take_le' k text) (Nat.le_trans hl (Nat.le_of_ble_eq_true rfl)))
    have mA : (encF (w0, lo) (text.take k)).2 = ledF lo (text.take k) := enc_led _ _
    have sA := led_take (m := lo) hk
    have sC := led_take (m := hi) hk
    have sP : (encF (w0, lo) (text.take (k + 1))).1 = bitW (encF (w0, lo) (text.take k)).1 (ledF lo (text.take k)) x := by rw [enc_take hk]; unfold encStep; rw [mA]
    rw [mA] at V1
    by_cases hkF : k < F
    · have hmin : min k F = k := min_l hkF
      have hmin1 : min (k + 1) F = k + 1 := min_l1 hkF
      obtain ⟨J3, V3, _⟩ := enc_ok (text.take k) (w0, hi) w0_ok hhi hbk
      have k3 : (encF (w0, hi) (text.take k)).1.k ≤ 900 := Nat.le_trans (bits_len (t := text.take k) hhi hbk) (Nat.le_trans (List.length_take_le' k text) (Nat.le_trans hl (Nat.le_of_ble_eq_true rfl)))
      have mC : (encF (w0, hi) (text.take k)).2 = ledF hi (text.take k) := enc_led _ _
      have sQ : (encF (w0, hi) (text.take (k + 1))).1 = bitW (encF (w0, hi) (text.take k)).1 (ledF hi (text.take k)) x := by rw [enc_take hk]; unfold encStep; rw [mC]
      rw [mC] at V3
      unfold stK
      rw [hmin, hmin1, sA, sC, sP, sQ]
      generalize (encF (w0, lo) (text.take k)).1 = w at J1 k1 ⊢
      generalize (encF (w0, hi) (text.take k)).1 = q at J3 k3 ⊢
      generalize ledF lo (text.take k) = a at V1 ⊢
      generalize ledF hi (text.take k) = t at V3 ⊢
      exact w_ahead C E J1 J3 V1 V3 hx k1 k3 hkF
    · have hmin : min k F = F := min_r hkF
      have hmin1 : min (k + 1) F = F := min_r1 hkF
      have eAC := fp_eq hF (Nat.le_of_not_lt hkF) hkl
      unfold stK
      rw [hmin, hmin1, sA, sC, ← eAC, sP]
      generalize (encF (w0, lo) (text.take k)).1 = w at J1 k1 ⊢
      generalize (encF (w0, hi) (text.take F)).1 = q
      generalize ledF lo (text.take F) = h
      generalize ledF lo (text.take k) = a at V1 ⊢
      exact w_behind C E J1 V1 hx k1 hkF
  · intro η τ ⟨hτ, E⟩
    subst hτ
    exact q η E
end
end

noncomputable def dropS : Nat → Ss → Ss
  | 0, s => s
  | _ + 1, .nil => .nil
  | n + 1, .cons _ r => dropS n r
theorem cmp_ne {σ : St} {m n : Nat} {xs ys : List Int} (h1 : σ[m]? = some (.list xs)) (h2 : σ[n]? = some (.list ys)) : cmpv .ne (.lab m) (.lab n) σ = some (xs != ys) := by simp only [cmpv, h1, h2]; rfl
theorem cmp_eq {σ : St} {m n : Nat} {xs ys : List Int} (h1 : σ[m]? = some (.list xs)) (h2 : σ[n]? = some (.list ys)) : cmpv .eq (.lab m) (.lab n) σ = some (xs == ys) := by simp only [cmpv, h1, h2]; rfl
theorem enc_split (p : W × Int) (t : List Int) (k : Nat) : encF (encF p (t.take k)) (t.drop k) = encF p t := by
  show List.foldl encStep (List.foldl encStep p (t.take k)) (t.drop k) = _
  rw [← List.foldl_append, List.take_append_drop]; rfl
theorem drop_at {t : List Int} {k : Nat} {x : Int} (h : t[k]? = some x) : t.drop k = x :: t.drop (k + 1) := by
  obtain ⟨h1, h2⟩ := List.getElem?_eq_some_iff.mp h
  rw [List.drop_eq_getElem_cons h1, h2]
section
variable {N : List Int} {n : Nat}
theorem sp_ended {S : List (Nat × AV) → St} {o d : Nat} {D : List Int} {p s c : Int} (h : RS S o d) : orc N prices (n + 1) 154 [.lab o] (S (rf D p s c)) = some (.bool (c == 0), S (rf D p s c)) := by
  apply fn_eq rfl rfl rfl
  apply wg_ret
  · apply ev_chain
    · apply ev_attr
      · exact ev_var rfl
      · exact rattr_at h rfl
    · exact evc_one ev_int cmp_int
  · exact leave_bool (rcl_at h)
/-! the reader's part -/
noncomputable def RF (R : St) (T : List Int) (F : List (Nat × AV)) (a c : Int) (acc : List Int) : St := R ++ [.dict F, .inst 192 R.length, .list [a], .list T, .list [c], .list acc]
theorem rf_cl {R : St} (hR : Cl R) {T D : List Int} {p s co : Int} {a c : Int} {acc : List Int} : Cl (RF R T (rf D p s co) a c acc) :=
  cl_app hR (by simp [okAO, rf])
theorem rf_a {R : St} (hR : Cl R) {T : List Int} (c : Int) (acc : List Int) (a : Int) : RS (fun F => RF R T F a c acc) (R.length + 1) R.length :=
  ⟨fun F => ga R _ 1, fun F => ga R _ 0, fun F F' => sa R _ 0 _, fun D p s co => rf_cl hR, fun F F' => by unfold RF; rw [List.length_append, List.length_append]; rfl⟩
theorem rf_len (R : St) (T : List Int) (F F' : List (Nat × AV)) (a a' c c' : Int) (acc : List Int) : (RF R T F a c acc).length = (RF R T F' a' c' acc).length := by unfold RF; rw [List.length_append, List.length_append]; rfl
theorem reader_part {R : St} {η : En} {Q : Fl → En → St → Prop} {lo hi : Int} {text D : List Int} {tl F : Nat} (hR : Cl R) (h1 : R[1]? = some (.list [lo, hi])) (ht : R[tl]? = some (.list text))
    (e0 : η 0 = some (.lab 1)) (e4 : η 4 = some (.lab tl)) (e6 : η 6 = some (.bytes D)) (e8 : η 8 = some (.int (ledF lo text))) (e10 : η 10 = some (.int F))
    (hlo : V lo) (hhi : V hi) (hb : B01 text) (hl : text.length ≤ 800) (hF : FP lo hi text text.length F) (hD : D = (doneW (encF (w0, lo) text).1).made)
    (q : ∀ η' L, Q (.ret (.bool true)) η' (R ++ L)) : Wg (orc N prices (n + 3)) N prices (dropS 9 c_l_coder_right) η R Q := by
  refine Classical.byContradiction fun hG0 => ?_
  have hln : lineOf = 1048576 := rfl
  obtain ⟨r1, r2, r3, r4, r5, r6, r7⟩ := read_start hlo hb hD
  refine hG0 ?_
  have hkl := bits_len (t := text) hlo hb
  have hDl : D.length ≤ 900 := by rw [r7]; exact Nat.le_trans (Nat.add_le_add_right (Nat.le_trans hkl hl) 5) (Nat.le_of_ble_eq_true rfl)
  have htl : text.length ≤ lineOf := le_1000 hl rfl
  have htk : ∀ k, (text.take k).length ≤ lineOf := fun k => Nat.le_trans (List.length_take_le' k text) htl
  have hFl : F ≤ text.length := hF.1
  have n1 := sp_rnew (N := N) (pr := prices) (n := n) hR r1 r2 hDl r3 r5
  have n2 := sp_led (N := N) (pr := prices) (n := n + 1) (m := hi) (j := R.length + 3) (bs := text.take F) (σ := R ++ [.dict (rf D 5 4294967295 (num (D.take 5))), .inst 192 R.length, .list [lo], .list (text.take F)]) (ga R _ 3) (cl_app hR (by simp [okAO, rf]))
  have st0 : R ++ [.dict (rf D 5 4294967295 (num (D.take 5))), .inst 192 R.length, .list [lo], .list (text.take F), .list [ledF hi (text.take F)], .list []] = RF R (text.take F) (rfAt D (encF (w0, lo) (text.take 0))) (ledF lo (text.take (min 0 F))) (ledF hi (text.take (max 0 F))) [] := by
    rw [Nat.zero_min, Nat.zero_max]
    show RF R (text.take F) (rf D 5 4294967295 (num (D.take 5))) lo _ [] = RF R (text.take F) (rf D 5 4294967295 (num (D.take 5) - w0.val)) lo _ []
    rw [w0_val, Int.sub_zero]
  apply wg_next (σ1 := R ++ [.dict (rf D 5 4294967295 (num (D.take 5))), .inst 192 R.length, .list [lo], .list (text.take F), .list [ledF hi (text.take F)]])
    (η1 := upds η [18, 15, 16] [.lab (R.length + 1), .lab (R.length + 2), .lab (R.length + 4)])
  · apply ex_asgs
    apply evs_cons
    · exact ev_call (evs_cons (ev_var e6) evs_nil) n1
    · apply evs_cons
      · apply ev_list
        · exact evs_cons (ev_sub (ev_var e0) ev_int (sub_lab (gl _ h1) rfl)) evs_nil
        · rfl
        · exact new_app (P := R) (k := 2) rfl (le_line rfl)
      · apply evs_cons
        · apply ev_list
          · apply evs_cons
            · apply ev_call
              · apply evs_cons
                · exact ev_sub (ev_var e0) ev_int (sub_lab (gl _ h1) rfl)
                · apply evs_cons
                  · apply ev_upto
                    · exact ev_var e4
                    · exact ev_var e10
                    · exact Int.natCast_nonneg F
                    · apply cut_lab (gl _ ht) htl
                      rw [Int.toNat_natCast]
                      exact new_app (P := R) (k := 3) rfl (htk F)
                  · exact evs_nil
              · exact n2
            · exact evs_nil
          · rfl
          · exact new_app (P := R) (k := 4) rfl (le_line rfl)
        · exact evs_nil
  · generalize hζ : upds η [18, 15, 16] [.lab (R.length + 1), .lab (R.length + 2), .lab (R.length + 4)] = ζ
    refine Classical.byContradiction fun hG1 => ?_
    have z4 : ζ 4 = some (.lab tl) := by rw [← hζ]; exact e4
    have z8 : ζ 8 = some (.int (ledF lo text)) := by rw [← hζ]; exact e8
    have z10 : ζ 10 = some (.int F) := by rw [← hζ]; exact e10
    have z15 : ζ 15 = some (.lab (R.length + 2)) := by rw [← hζ]; rfl
    have z16 : ζ 16 = some (.lab (R.length + 4)) := by rw [← hζ]; rfl
    have z18 : ζ 18 = some (.lab (R.length + 1)) := by rw [← hζ]; rfl
    obtain ⟨acc, τ, e, hτ, hacc⟩ := comp0 (elt := fun v τ => ev (orc N prices (n + 3)) N prices (.meth (.var 18) 3 (.cons (.ite (.chain (.var 17) (.one .lt (.var 10))) (.var 15) (.var 16)) (.cons (.int 0) .nil))) (upd (fun i => if [18, 15, 16, 10].contains i then ζ i else none) 17 v) τ)
      (n := R.length + 5) (ok := fun τ => isL τ none ((List.range text.length).map fun (k : Nat) => (k : Int))) (l := (List.range text.length).map fun (k : Nat) => (k : Int))
      (σ := RF R (text.take F) (rfAt D (encF (w0, lo) (text.take 0))) (ledF lo (text.take (min 0 F))) (ledF hi (text.take (max 0 F))) [])
      (fun k acc τ => τ = RF R (text.take F) (rfAt D (encF (w0, lo) (text.take k))) (ledF lo (text.take (min k F))) (ledF hi (text.take (max k F))) acc ∧ acc = text.take k) ⟨rfl, rfl⟩ (fun _ _ _ _ => rfl)
      (fun k acc τ ⟨h1, h2⟩ => by subst h1; exact ⟨ga R _ 5, by rw [h2]; exact htk k⟩) fun k y acc τ hky ⟨hτ, hacc⟩ => by
        obtain ⟨hk, rfl⟩ := range_at hky
        have hx : text[k]? = some text[k] := List.getElem?_eq_getElem hk
        generalize text[k] = x at hx
        have hbk := hb.take k
        obtain ⟨J1, V1, _⟩ := enc_ok (text.take k) (w0, lo) w0_ok hlo hbk
        have mA : (encF (w0, lo) (text.take k)).2 = ledF lo (text.take k) := enc_led _ _
        have sA := led_take (m := lo) hx
        have sC := led_take (m := hi) hx
        have sP : encF (w0, lo) (text.take (k + 1)) = encStep (encF (w0, lo) (text.take k)) x := enc_take hx
        have sM : (encStep (encF (w0, lo) (text.take k)) x).2 = ledF lo (text.take (k + 1)) := by rw [← sP]; exact enc_led _ _
        have hbd : B01 (x :: text.drop (k + 1)) := by rw [← drop_at hx]; exact hb.drop k
        have hD' : D = (doneW (encF (encF (w0, lo) (text.take k)) (x :: text.drop (k + 1))).1).made := by rw [← drop_at hx, enc_split]; exact hD
        have hacc' : acc.length ≤ lineOf := by rw [hacc]; exact htk k
        have haccx : acc ++ [x] = text.take (k + 1) := by rw [hacc, List.take_add_one, hx]; rfl
        subst hτ
        by_cases hkF : k < F
        · have hmin : min k F = k := min_l hkF
          have hmin1 : min (k + 1) F = k + 1 := min_l1 hkF
          have hmax : max k F = F := max_r hkF
          have hmax1 : max (k + 1) F = F := max_r1 hkF
          have rb := sp_rbit (N := N) (pr := prices) (n := n) (S := fun Fd m => RF R (text.take F) Fd m (ledF hi (text.take F)) acc) (o := R.length + 1) (d := R.length) (j := R.length + 2) (fun m => rf_a hR _ _ m) (fun Fd m => ga R _ 2) (fun Fd m m' => sa R _ 2 _)
            (fun Fd m Fd' m' => rf_len R _ Fd Fd' m m' _ _ acc) J1 V1 hbd hD' hDl
          rw [sM, mA, ← sP] at rb
          rw [hmin, hmin1, hmax, hmax1]
          refine ⟨x, RF R (text.take F) (rfAt D (encF (w0, lo) (text.take (k + 1)))) (ledF lo (text.take (k + 1))) (ledF hi (text.take F)) acc, acc, ?_, ga R _ 5, hacc', sa R _ 5 _, haccx⟩
          apply ev_meth
          · exact ev_var z18
          · exact rcls_at (rf_a hR _ _ _)
          · rfl
          · exact evs_cons (ev_ite_t (ev_chain (ev_var rfl) (evc_one (ev_var z10) cmp_int)) (lt_cast hkF) (ev_var z15)) (evs_cons ev_int evs_nil)
          · exact rb
        · have hmin : min k F = F := min_r hkF
          have hmin1 : min (k + 1) F = F := min_r1 hkF
          have hmax : max k F = k := max_l hkF
          have hmax1 : max (k + 1) F = k + 1 := max_l1 hkF
          have eAC := fp_eq hF (Nat.le_of_not_lt hkF) hk
          have eAC1 : ledF lo (text.take (k + 1)) = ledF hi (text.take (k + 1)) := led_stay eAC 1
          have rb := sp_rbit (N := N) (pr := prices) (n := n) (S := fun Fd m => RF R (text.take F) Fd (ledF lo (text.take F)) m acc) (o := R.length + 1) (d := R.length) (j := R.length + 4) (fun m => rf_a hR m _ _) (fun Fd m => ga R _ 4) (fun Fd m m' => sa R _ 4 _)
            (fun Fd m Fd' m' => rf_len R _ Fd Fd' _ _ m m' acc) J1 V1 hbd hD' hDl
          rw [sM, mA, ← sP, eAC, eAC1] at rb
          rw [hmin, hmin1, hmax, hmax1]
          refine ⟨x, RF R (text.take F) (rfAt D (encF (w0, lo) (text.take (k + 1)))) (ledF lo (text.take F)) (ledF hi (text.take (k + 1))) acc, acc, ?_, ga R _ 5, hacc', sa R _ 5 _, haccx⟩
          apply ev_meth
          · exact ev_var z18
          · exact rcls_at (rf_a hR _ _ _)
          · rfl
          · exact evs_cons (ev_ite_f (ev_chain (ev_var rfl) (evc_one (ev_var z10) cmp_int)) (nlt_cast hkF) (ev_var z16)) (evs_cons ev_int evs_nil)
          · exact rb
    refine hG1 ?_
    rw [range_len, List.take_length] at hτ hacc
    rw [hacc] at hτ
    have hminE : min text.length F = F := Nat.min_eq_right hFl
    have hmaxE : max text.length F = text.length := Nat.max_eq_left hFl
    rw [hminE, hmaxE, List.take_length] at hτ
    have hcode : num (D.take ((encF (w0, lo) text).1.k + 5)) - (encF (w0, lo) text).1.val = 0 := by
      rw [← r7, List.take_length, r6]; exact Int.sub_self _
    apply wg_next
    · apply ex_asgComp
      apply ev_compN (n := R.length + 5) (σ1 := R ++ [.dict (rf D 5 4294967295 (num (D.take 5))), .inst 192 R.length, .list [lo], .list (text.take F), .list [ledF hi (text.take F)]])
      · apply evi_range
        · apply ev_b1
          · exact ev_var z4
          · exact b1_len (gl _ ht) htl
        · exact Nat.lt_of_le_of_lt hl (Nat.le_of_ble_eq_true rfl)
      · rw [List.length_append]; rfl
      · rw [List.append_assoc]
        show compGo _ _ _ _ (R ++ [.dict (rf D 5 4294967295 (num (D.take 5))), .inst 192 R.length, .list [lo], .list (text.take F), .list [ledF hi (text.take F)], .list []]) = _
        rw [st0]
        exact e
    · subst hτ
      apply wg_ret (v := .bool true)
      · apply ev_and
        apply evb_go (β := true)
        · apply ev_chain
          · exact ev_var rfl
          · apply evc_one
            · exact ev_var z4
            · exact (cmp_eq (ga R _ 5) (gl _ ht)).trans (congrArg some (beq_self_eq_true _))
        · rfl
        · apply evb_go (β := true)
          · apply ev_meth
            · exact ev_var z18
            · exact rcls_at (rf_a hR _ _ _)
            · rfl
            · exact evs_nil
            · have en := sp_ended (N := N) (n := n + 2) (D := D) (p := (((encF (w0, lo) text).1.k + 5 : Nat) : Int)) (s := (encF (w0, lo) text).1.span) (c := num (D.take ((encF (w0, lo) text).1.k + 5)) - (encF (w0, lo) text).1.val) (rf_a hR (T := text.take F) (ledF hi text) text (ledF lo (text.take F)))
              rw [show ((num (D.take ((encF (w0, lo) text).1.k + 5)) - (encF (w0, lo) text).1.val) == 0) = true from beq_iff_eq.mpr hcode] at en
              exact en
          · rfl
          · apply evb_go (β := true)
            · by_cases hE : F = text.length
              · apply ev_chain
                · apply ev_ite_t
                  · apply ev_chain
                    · exact ev_var z10
                    · apply evc_one
                      · apply ev_b1
                        · exact ev_var z4
                        · exact b1_len (gl _ ht) htl
                      · exact cmp_int
                  · exact beq_cast hE
                  · exact ev_var z15
                · apply evc_one
                  · apply ev_list
                    · exact evs_cons (ev_var z8) evs_nil
                    · rfl
                    · exact new_app (P := R) (k := 6) rfl (le_line rfl)
                  · refine (cmp_eq (xs := [ledF lo (text.take F)]) (ys := [ledF lo text]) (ga R _ 2) (ga R _ 6)).trans ?_
                    rw [hE, List.take_length]
                    exact congrArg some (beq_self_eq_true _)
              · have hlt : F < text.length := Nat.lt_of_le_of_ne hFl hE
                apply ev_chain
                · apply ev_ite_f
                  · apply ev_chain
                    · exact ev_var z10
                    · apply evc_one
                      · apply ev_b1
                        · exact ev_var z4
                        · exact b1_len (gl _ ht) htl
                      · exact cmp_int
                  · exact nbeq_cast hE
                  · exact ev_var z16
                · apply evc_one
                  · apply ev_list
                    · exact evs_cons (ev_var z8) evs_nil
                    · rfl
                    · exact new_app (P := R) (k := 6) rfl (le_line rfl)
                  · refine (cmp_eq (xs := [ledF hi text]) (ys := [ledF lo text]) (ga R _ 4) (ga R _ 6)).trans ?_
                    rw [fp_end hF hlt]
                    exact congrArg some (beq_self_eq_true _)
            · rfl
            · exact evb_nil
      · exact q _ _
end

noncomputable def SP (P : St) (D1 : List (Nat × AV)) (B1 : List Int) (D2 : List (Nat × AV)) (B2 : List Int) (D3 : List (Nat × AV)) (B3 : List Int) (a h t : Int) : St :=
  P ++ [.dict D1, .inst 276 P.length, .barr B1, .dict D2, .inst 276 (P.length + 3), .barr B2, .dict D3, .inst 276 (P.length + 6), .barr B3, .list [a], .list [h], .list [t]]
theorem SP_cl {P : St} (hP : Cl P) (w1 w2 w3 : W) (c1 c2 c3 : Bool) (B1 B2 B3 : List Int) (a h t : Int) : Cl (SP P (wf w1 c1 (P.length + 2)) B1 (wf w2 c2 (P.length + 5)) B2 (wf w3 c3 (P.length + 8)) B3 a h t) :=
  cl_app hP (by simp [okAO, wf])
theorem SP_len (P : St) (D1 B1 D2 B2 D3 B3 a h t D1' B1' D2' B2' D3' B3' a' h' t') : (SP P D1 B1 D2 B2 D3 B3 a h t).length = (SP P D1' B1' D2' B2' D3' B3' a' h' t').length := by
  unfold SP; rw [List.length_append, List.length_append]; rfl
theorem SP_ok {P : St} {tl : Nat} {text : List Int} (hP : Cl P) (ht : P[tl]? = some (.list text)) :
    S3OK (SP P) (P.length + 1) P.length (P.length + 2) (P.length + 4) (P.length + 3) (P.length + 5) (P.length + 7) (P.length + 6) (P.length + 8) (P.length + 9) (P.length + 10) (P.length + 11) tl text where
  f1 := fun w2 c2 B2 w3 c3 B3 h t => ⟨⟨fun D B m => ga P _ 1, fun D B m => ga P _ 0, fun D B m => ga P _ 2, fun D B m => ga P _ 9, fun D B m D' => sa P _ 0 _, fun D B m B' => sa P _ 2 _, fun D B m m' => sa P _ 9 _⟩,
    fun w c B m => SP_cl hP _ _ _ _ _ _ _ _ _ _ _ _, fun _ _ _ _ _ _ => SP_len _ _ _ _ _ _ _ _ _ _ _ _ _ _ _ _ _ _ _⟩
  f2h := fun w1 c1 B1 w3 c3 B3 a t => ⟨⟨fun D B m => ga P _ 4, fun D B m => ga P _ 3, fun D B m => ga P _ 5, fun D B m => ga P _ 10, fun D B m D' => sa P _ 3 _, fun D B m B' => sa P _ 5 _, fun D B m m' => sa P _ 10 _⟩,
    fun w c B m => SP_cl hP _ _ _ _ _ _ _ _ _ _ _ _, fun _ _ _ _ _ _ => SP_len _ _ _ _ _ _ _ _ _ _ _ _ _ _ _ _ _ _ _⟩
  f2t := fun w1 c1 B1 w3 c3 B3 a h => ⟨⟨fun D B m => ga P _ 4, fun D B m => ga P _ 3, fun D B m => ga P _ 5, fun D B m => ga P _ 11, fun D B m D' => sa P _ 3 _, fun D B m B' => sa P _ 5 _, fun D B m m' => sa P _ 11 _⟩,
    fun w c B m => SP_cl hP _ _ _ _ _ _ _ _ _ _ _ _, fun _ _ _ _ _ _ => SP_len _ _ _ _ _ _ _ _ _ _ _ _ _ _ _ _ _ _ _⟩
  f3 := fun w1 c1 B1 w2 c2 B2 a h => ⟨⟨fun D B m => ga P _ 7, fun D B m => ga P _ 6, fun D B m => ga P _ 8, fun D B m => ga P _ 11, fun D B m D' => sa P _ 6 _, fun D B m B' => sa P _ 8 _, fun D B m m' => sa P _ 11 _⟩,
    fun w c B m => SP_cl hP _ _ _ _ _ _ _ _ _ _ _ _, fun _ _ _ _ _ _ => SP_len _ _ _ _ _ _ _ _ _ _ _ _ _ _ _ _ _ _ _⟩
  tx := fun D1 B1 D2 B2 D3 B3 a h t => gl _ ht
section
variable {N : List Int} {n : Nat}
theorem three_new (P : St) : evs (orc N prices (n + 2)) N prices (.cons (.call 276 .nil) (.cons (.call 276 .nil) (.cons (.call 276 .nil) .nil))) η P = some ([.lab (P.length + 1), .lab (P.length + 4), .lab (P.length + 7)],
    P ++ [.dict (wf w0 false (P.length + 2)), .inst 276 P.length, .barr [], .dict (wf w0 false (P.length + 5)), .inst 276 (P.length + 3), .barr [], .dict (wf w0 false (P.length + 8)), .inst 276 (P.length + 6), .barr []]) := by
  have n1 := sp_wnew (N := N) (pr := prices) (n := n) P
  have n2 := sp_wnew (N := N) (pr := prices) (n := n) (P ++ [.dict (wf w0 false (P.length + 2)), .inst 276 P.length, .barr []])
  have n3 := sp_wnew (N := N) (pr := prices) (n := n) (P ++ [.dict (wf w0 false (P.length + 2)), .inst 276 P.length, .barr [], .dict (wf w0 false (P.length + 5)), .inst 276 (P.length + 3), .barr []])
  rw [List.length_append, List.append_assoc] at n2 n3
  exact evs_cons (ev_call evs_nil n1) (evs_cons (ev_call evs_nil n2) (evs_cons (ev_call evs_nil n3) evs_nil))
theorem coder_mid {P : St} {η : En} {Q : Fl → En → St → Prop} {lo hi : Int} {text : List Int} {tl : Nat} (hP : Cl P) (h1 : P[1]? = some (.list [lo, hi])) (ht : P[tl]? = some (.list text))
    (e0 : η 0 = some (.lab 1)) (e4 : η 4 = some (.lab tl)) (hlo : V lo) (hhi : V hi) (hb : B01 text) (hl : text.length ≤ 700)
    (q : ∀ η' L, Q (.ret (.bool true)) η' (P ++ L)) : Wg (orc N prices (n + 3)) N prices (dropS 2 c_l_coder_right) η P Q := by
  have hln : lineOf = 1048576 := rfl
  apply wg_next
  · exact ex_asgs (evs_cons (ev_sub (ev_var e0) ev_int (sub_lab h1 rfl)) (evs_cons (ev_sub (ev_var e0) ev_int (sub_lab h1 rfl)) (evs_cons ev_int evs_nil)))
  · apply wg_for (l := text) (on := some tl) (fun k η τ => τ = P ∧ η 0 = some (.lab 1) ∧ η 4 = some (.lab tl) ∧ η 8 = some (.int (ledF lo (text.take k))) ∧ η 9 = some (.int (ledF hi (text.take k))) ∧ ∃ F : Nat, η 10 = some (.int F) ∧ FP lo hi text k F)
    · exact evi_elems (ev_var e4) ht
    · exact ⟨rfl, e0, e4, rfl, rfl, 0, rfl, fp_zero _ _ _⟩
    · intro k η τ ⟨hτ, _⟩
      subst hτ
      simp [isL, ht]
    · intro k x η τ hk ⟨hτ, g0, g4, g8, g9, F, g10, hF⟩
      subst hτ
      have hs := fp_step hF
      have s1 := led_take (m := lo) hk
      have s2 := led_take (m := hi) hk
      generalize ledF lo (text.take k) = A at g8 hs s1
      generalize ledF hi (text.take k) = C at g9 hs s2
      apply wg_next
      · apply ex_asg
        apply ev_bin
        · exact ev_var g10
        · apply ev_b1
          · exact ev_chain (ev_var g8) (evc_one (ev_var g9) cmp_int)
          · exact b1_int
        · exact bin_int rfl
      · apply wg_next
        · apply ex_asgs
          apply evs_cons
          · exact ev_call (evs_cons (ev_var g8) (evs_cons (ev_var rfl) evs_nil)) (sp_next hP)
          · apply evs_cons
            · exact ev_call (evs_cons (ev_var g9) (evs_cons (ev_var rfl) evs_nil)) (sp_next hP)
            · exact evs_nil
        · refine wg_nil ⟨rfl, rfl, g0, g4, ?_, ?_, _, ?_, hs⟩
          · rw [s1]; rfl
          · rw [s2]; rfl
          · show some (AV.int ((F : Int) + (if (intCmp .ne A C) = true then 1 else 0))) = some (.int ((F + (if A ≠ C then 1 else 0) : Nat) : Int))
            by_cases hAC : A = C
            · rw [if_neg (by simp [intCmp, hAC]), if_neg (by simpa using hAC)]; rfl
            · rw [if_pos (by simpa [intCmp] using hAC), if_pos hAC]; rfl
    · intro η τ ⟨hτ, g0, g4, g8, g9, F, g10, hF⟩
      subst hτ
      rw [List.take_length] at g8 g9
      have hFl := hF.1
      apply wg_next
      · apply ex_asgs
        exact three_new (n := n + 1) τ
      · apply wg_next
        · apply ex_asgs
          apply evs_cons
          · apply ev_list
            · exact evs_cons (ev_sub (ev_var g0) ev_int (sub_lab (gl _ h1) rfl)) evs_nil
            · rfl
            · exact new_app (P := τ) (k := 9) rfl (le_line rfl)
          · apply evs_cons
            · apply ev_list
              · exact evs_cons (ev_sub (ev_var g0) ev_int (sub_lab (gl _ h1) rfl)) evs_nil
              · rfl
              · exact new_app (P := τ) (k := 10) rfl (le_line rfl)
            · apply evs_cons
              · apply ev_list
                · exact evs_cons (ev_sub (ev_var g0) ev_int (sub_lab (gl _ h1) rfl)) evs_nil
                · rfl
                · exact new_app (P := τ) (k := 11) rfl (le_line rfl)
              · exact evs_nil
        · have s0 : stK (SP τ) (τ.length + 2) (τ.length + 5) (τ.length + 8) F lo hi text 0 = SP τ (wf w0 false (τ.length + 2)) [] (wf w0 false (τ.length + 5)) [] (wf w0 false (τ.length + 8)) [] lo lo hi := by
            unfold stK
            rw [Nat.zero_min]; rfl
          have E : CEnv (upds (upds η [11, 12, 13] [.lab (τ.length + 1), .lab (τ.length + 4), .lab (τ.length + 7)]) [14, 15, 16] [.lab (τ.length + 9), .lab (τ.length + 10), .lab (τ.length + 11)]) (τ.length + 1) (τ.length + 4) (τ.length + 7) (τ.length + 9) (τ.length + 10) (τ.length + 11) tl F lo hi text :=
            ⟨g0, g4, g8, g9, g10, rfl, rfl, rfl, rfl, rfl, rfl⟩
          have S := SP_ok hP ht
          have go := writers_loop (N := N) (pr := prices) (n := n) (r := dropS 7 c_l_coder_right) (Q := Q) S E hlo hhi hb (Nat.le_trans hl (Nat.le_of_ble_eq_true rfl)) hF ?_
          · rw [s0] at go; exact go
          · intro η' E'
            clear E s0
            unfold stK
            rw [List.take_length, show min text.length F = F from Nat.min_eq_right hFl]
            obtain ⟨J, _⟩ := enc_ok text (w0, lo) w0_ok hlo hb
            have hk := bits_len hlo hb
            have hD : (doneW (encF (w0, lo) text).1).made = (doneW (encF (w0, lo) text).1).made := rfl
            generalize hw : (encF (w0, lo) text).1 = w at J hk
            generalize (encF (w0, hi) (text.take F)).1 = qw
            have d1 := sp_wdone (N := N) (pr := prices) (n := n + 1) (S.f1 w false w.made qw false qw.made (ledF lo (text.take F)) (ledF hi text)) (m := ledF lo text) J (Nat.le_trans hk (Nat.le_trans hl (Nat.le_of_ble_eq_true rfl)))
            have d2 := sp_wdone (N := N) (pr := prices) (n := n + 1) (S.f2h (doneW w) true (doneW w).made qw false qw.made (ledF lo text) (ledF hi text)) (m := ledF lo (text.take F)) J (Nat.le_trans hk (Nat.le_trans hl (Nat.le_of_ble_eq_true rfl)))
            have c1 := cls_at (D := wf w false (τ.length + 2)) (B := w.made) (m := ledF lo text) (S.f1 w false w.made qw false qw.made (ledF lo (text.take F)) (ledF hi text)).toWS
            have c2 := cls_at (D := wf w false (τ.length + 5)) (B := w.made) (m := ledF lo (text.take F)) (S.f2h (doneW w) true (doneW w).made qw false qw.made (ledF lo text) (ledF hi text)).toWS
            have hDw : (doneW w).made = (doneW (encF (w0, lo) text).1).made := by rw [hw]
            generalize hDD : (doneW w).made = D at *
            generalize doneW w = dw at *
            apply wg_next
            · apply ex_asg
              apply ev_meth
              · exact ev_var E'.e11
              · exact c1
              · rfl
              · exact evs_nil
              · exact d1
            · generalize hζ : upd η' 6 (.bytes D) = ζ
              have z0 : ζ 0 = some (.lab 1) := by rw [← hζ]; exact E'.e0
              have z4 : ζ 4 = some (.lab tl) := by rw [← hζ]; exact E'.e4
              have z6 : ζ 6 = some (.bytes D) := by rw [← hζ]; rfl
              have z8 : ζ 8 = some (.int (ledF lo text)) := by rw [← hζ]; exact E'.e8
              have z9 : ζ 9 = some (.int (ledF hi text)) := by rw [← hζ]; exact E'.e9
              have z10 : ζ 10 = some (.int F) := by rw [← hζ]; exact E'.e10
              have z12 : ζ 12 = some (.lab (τ.length + 4)) := by rw [← hζ]; exact E'.e12
              have z14 : ζ 14 = some (.lab (τ.length + 9)) := by rw [← hζ]; exact E'.e14
              have z15 : ζ 15 = some (.lab (τ.length + 10)) := by rw [← hζ]; exact E'.e15
              have z16 : ζ 16 = some (.lab (τ.length + 11)) := by rw [← hζ]; exact E'.e16
              have key : ∃ L, Cl (τ ++ L) ∧ ev (orc N prices (n + 3)) N prices (.or (.cons (.chain (.meth (.var 12) 6 .nil) (.one .ne (.var 6))) (.cons (.chain (.var 14) (.one .ne (.list (.cons (.var 8) .nil)))) (.cons (.chain (.var 16) (.one .ne (.list (.cons (.var 9) .nil))))
                  (.cons (.and (.cons (.chain (.var 10) (.one .eq (.b1 .len (.var 4)))) (.cons (.chain (.var 15) (.one .ne (.list (.cons (.var 8) .nil)))) .nil))) .nil))))) ζ
                  (SP τ (wf dw true (τ.length + 2)) D (wf w false (τ.length + 5)) w.made (wf qw false (τ.length + 8)) qw.made (ledF lo text) (ledF lo (text.take F)) (ledF hi text)) = some (.bool false, τ ++ L) := by
                have a1 : ev (orc N prices (n + 3)) N prices (.chain (.meth (.var 12) 6 .nil) (.one .ne (.var 6))) ζ (SP τ (wf dw true (τ.length + 2)) D (wf w false (τ.length + 5)) w.made (wf qw false (τ.length + 8)) qw.made (ledF lo text) (ledF lo (text.take F)) (ledF hi text)) =
                    some (.bool false, SP τ (wf dw true (τ.length + 2)) D (wf dw true (τ.length + 5)) D (wf qw false (τ.length + 8)) qw.made (ledF lo text) (ledF lo (text.take F)) (ledF hi text)) :=
                  ev_chain (ev_meth (ev_var z12) c2 rfl evs_nil d2) (evc_one (ev_var z6) (congrArg some (bne_self_eq_false D)))
                have a2 : ev (orc N prices (n + 3)) N prices (.chain (.var 14) (.one .ne (.list (.cons (.var 8) .nil)))) ζ (SP τ (wf dw true (τ.length + 2)) D (wf dw true (τ.length + 5)) D (wf qw false (τ.length + 8)) qw.made (ledF lo text) (ledF lo (text.take F)) (ledF hi text)) =
                    some (.bool false, τ ++ [.dict (wf dw true (τ.length + 2)), .inst 276 τ.length, .barr D, .dict (wf dw true (τ.length + 5)), .inst 276 (τ.length + 3), .barr D, .dict (wf qw false (τ.length + 8)), .inst 276 (τ.length + 6), .barr qw.made, .list [ledF lo text], .list [ledF lo (text.take F)], .list [ledF hi text], .list [ledF lo text]]) := by
                  apply ev_chain
                  · exact ev_var z14
                  · apply evc_one
                    · apply ev_list
                      · exact evs_cons (ev_var z8) evs_nil
                      · rfl
                      · exact new_app (P := τ) (k := 12) rfl (le_line rfl)
                    · exact (cmp_ne (xs := [ledF lo text]) (ys := [ledF lo text]) (ga τ _ 9) (ga τ _ 12)).trans (congrArg some (bne_self_eq_false _))
                have a3 : ev (orc N prices (n + 3)) N prices (.chain (.var 16) (.one .ne (.list (.cons (.var 9) .nil)))) ζ (τ ++ [.dict (wf dw true (τ.length + 2)), .inst 276 τ.length, .barr D, .dict (wf dw true (τ.length + 5)), .inst 276 (τ.length + 3), .barr D, .dict (wf qw false (τ.length + 8)), .inst 276 (τ.length + 6), .barr qw.made, .list [ledF lo text], .list [ledF lo (text.take F)], .list [ledF hi text], .list [ledF lo text]]) =
                    some (.bool false, τ ++ [.dict (wf dw true (τ.length + 2)), .inst 276 τ.length, .barr D, .dict (wf dw true (τ.length + 5)), .inst 276 (τ.length + 3), .barr D, .dict (wf qw false (τ.length + 8)), .inst 276 (τ.length + 6), .barr qw.made, .list [ledF lo text], .list [ledF lo (text.take F)], .list [ledF hi text], .list [ledF lo text], .list [ledF hi text]]) := by
                  apply ev_chain
                  · exact ev_var z16
                  · apply evc_one
                    · apply ev_list
                      · exact evs_cons (ev_var z9) evs_nil
                      · rfl
                      · exact new_app (P := τ) (k := 13) rfl (le_line rfl)
                    · exact (cmp_ne (xs := [ledF hi text]) (ys := [ledF hi text]) (ga τ _ 11) (ga τ _ 13)).trans (congrArg some (bne_self_eq_false _))
                by_cases hE : F = text.length
                · refine ⟨[.dict (wf dw true (τ.length + 2)), .inst 276 τ.length, .barr D, .dict (wf dw true (τ.length + 5)), .inst 276 (τ.length + 3), .barr D, .dict (wf qw false (τ.length + 8)), .inst 276 (τ.length + 6), .barr qw.made, .list [ledF lo text], .list [ledF lo (text.take F)], .list [ledF hi text], .list [ledF lo text], .list [ledF hi text], .list [ledF lo text]], cl_app hP (by simp [okAO, wf]), ?_⟩
                  apply ev_or
                  refine evb_go a1 rfl (evb_go a2 rfl (evb_go a3 rfl (evb_go (β := false) ?_ rfl evb_nil)))
                  apply ev_and
                  apply evb_go (β := true)
                  · apply ev_chain
                    · exact ev_var z10
                    · apply evc_one
                      · exact ev_b1 (ev_var z4) (b1_len (gl _ ht) (le_1000 hl rfl))
                      · exact congrArg some (beq_cast hE)
                  · rfl
                  · apply evb_stop (β := false)
                    · apply ev_chain
                      · exact ev_var z15
                      · apply evc_one
                        · apply ev_list
                          · exact evs_cons (ev_var z8) evs_nil
                          · rfl
                          · exact new_app (P := τ) (k := 14) rfl (le_line rfl)
                        · refine (cmp_ne (xs := [ledF lo (text.take F)]) (ys := [ledF lo text]) (ga τ _ 10) (ga τ _ 14)).trans ?_
                          rw [hE, List.take_length]
                          exact congrArg some (bne_self_eq_false _)
                    · decide
                · refine ⟨[.dict (wf dw true (τ.length + 2)), .inst 276 τ.length, .barr D, .dict (wf dw true (τ.length + 5)), .inst 276 (τ.length + 3), .barr D, .dict (wf qw false (τ.length + 8)), .inst 276 (τ.length + 6), .barr qw.made, .list [ledF lo text], .list [ledF lo (text.take F)], .list [ledF hi text], .list [ledF lo text], .list [ledF hi text]], cl_app hP (by simp [okAO, wf]), ?_⟩
                  apply ev_or
                  refine evb_go a1 rfl (evb_go a2 rfl (evb_go a3 rfl (evb_go (β := false) ?_ rfl evb_nil)))
                  apply ev_and
                  refine evb_stop (β := false) ?_ (by decide)
                  apply ev_chain
                  · exact ev_var z10
                  · apply evc_one
                    · exact ev_b1 (ev_var z4) (b1_len (gl _ ht) (le_1000 hl rfl))
                    · exact congrArg some (nbeq_cast hE)
              obtain ⟨L, hL, eL⟩ := key
              apply wg_iff (β := false)
              · exact eL
              · intro h; cases h
              · intro _
                exact reader_part hL (gl _ h1) (gl _ ht) z0 z4 z6 z8 z10 hlo hhi hb (Nat.le_trans hl (Nat.le_of_ble_eq_true rfl)) hF hDw fun η' L' => by rw [List.append_assoc]; exact q η' _
theorem sp_coder {lo hi side : Int} {J bs : List Int} (hlo : V lo) (hhi : V hi) (hb : B01 bs) (hl : bs.length ≤ 30) (hs : side = 0 ∨ side = 1) :
    orc N prices (n + 4) 3592 [.lab 1, .lab 2, .int side] [.list J, .list [lo, hi], .list bs] = some (.bool true, [.list J, .list [lo, hi], .list bs]) := by
  have hln : lineOf = 1048576 := rfl
  have f1 : ∀ x, V x → V (if side = 1 then x else 2048 - x) := fun x hx => by unfold V at *; split <;> (first | omega | lia)
  have g1 := f1 lo hlo
  have g2 := f1 hi hhi
  generalize hA : (if side = 1 then lo else 2048 - lo) = A at g1
  generalize hC : (if side = 1 then hi else 2048 - hi) = C at g2
  have hg : V (max A C) := by unfold V at *; (first | omega | lia)
  have T := turns_ok (g := max A C) (by have := hg.1; (first | omega | lia)) (by have := hg.2; (first | omega | lia))
  have t1 := sp_turns (N := N) (pr := prices) (n := n + 2) (lack := max A C) (σ := [.list J, .list [lo, hi], .list bs, .list [A, C]]) rfl
  apply fn_eq rfl rfl rfl
  apply wg_next (σ1 := [.list J, .list [lo, hi], .list bs, .list [A, C]]) (η1 := upd (enter [.lab 1, .lab 2, .int side]) 3 (.int (turnsF (max A C))))
  · apply ex_asg
    apply ev_call
    · apply evs_cons
      · apply ev_b1
        · apply ev_compN (n := 3)
          · exact evi_elems (l := [lo, hi]) (ev_var rfl) rfl
          · rfl
          · exact comp_pure (σ := [.list J, .list [lo, hi], .list bs]) (fun x => if side = 1 then x else 2048 - x) (le_line rfl) (fun acc => by simp [isL]) fun x hx acc => by
              by_cases h : side = 1
              · rw [if_pos h]
                exact ev_ite_t (ev_chain (ev_var rfl) (evc_one ev_int cmp_int)) (beq_iff_eq.mpr h) (ev_var rfl)
              · rw [if_neg h]
                exact ev_ite_f (ev_chain (ev_var rfl) (evc_one ev_int cmp_int)) (beq_eq_false_iff_ne.mpr h) (ev_bin ev_int (ev_var rfl) (bin_int rfl))
        · rw [show [lo, hi].map (fun x => if side = 1 then x else 2048 - x) = [A, C] by rw [← hA, ← hC]; rfl]
          exact b1_max (i := A) (l := [C]) rfl
      · exact evs_nil
    · exact t1
  · by_cases hr : turnsF (max A C) < 50
    · have hT := T.lo
      have hrep : ((List.replicate (turnsF (max A C)).toNat [side]).flatten).length = (turnsF (max A C)).toNat := by rw [flat_rep, List.length_replicate]
      apply wg_next (σ1 := [.list J, .list [lo, hi], .list bs, .list [A, C], .list [side], .list (List.replicate (turnsF (max A C)).toNat [side]).flatten, .list ((List.replicate (turnsF (max A C)).toNat [side]).flatten ++ bs)])
        (η1 := upd (upd (enter [.lab 1, .lab 2, .int side]) 3 (.int (turnsF (max A C)))) 4 (.lab 6))
      · apply ex_asg
        apply ev_bin
        · apply ev_ite_t
          · exact ev_chain (ev_var rfl) (evc_one ev_int cmp_int)
          · exact decide_eq_true hr
          · apply ev_bin
            · apply ev_list
              · exact evs_cons (ev_var rfl) evs_nil
              · rfl
              · exact new_list (le_line rfl)
            · exact ev_var rfl
            · exact bin_rep (xs := [side]) rfl ⟨by show 1 ≤ 1000; decide, by (first | omega | lia), by (first | omega | lia)⟩ (new_list (by rw [hrep]; (first | omega | lia)))
        · exact ev_var rfl
        · exact bin_cat (xs := (List.replicate (turnsF (max A C)).toNat [side]).flatten) (ys := bs) rfl rfl (new_list (by rw [List.length_append, hrep]; (first | omega | lia)))
      · refine coder_mid (P := [.list J, .list [lo, hi], .list bs, .list [A, C], .list [side], .list (List.replicate (turnsF (max A C)).toNat [side]).flatten, .list ((List.replicate (turnsF (max A C)).toNat [side]).flatten ++ bs)]) (tl := 6) rfl rfl rfl rfl rfl hlo hhi ?_ (by rw [List.length_append, hrep]; (first | omega | lia)) fun η' L => ?_
        · intro b hb'
          rcases List.mem_append.mp hb' with hb' | hb'
          · rw [flat_rep] at hb'
            rw [List.eq_of_mem_replicate hb']; exact hs
          · exact hb b hb'
        · exact leave_bool (cut_app (σ := [.list J, .list [lo, hi], .list bs]) (τ := [.list [A, C], .list [side], .list (List.replicate (turnsF (max A C)).toNat [side]).flatten, .list ((List.replicate (turnsF (max A C)).toNat [side]).flatten ++ bs)] ++ L) rfl rfl)
    · apply wg_next (σ1 := [.list J, .list [lo, hi], .list bs, .list [A, C], .list [], .list bs]) (η1 := upd (upd (enter [.lab 1, .lab 2, .int side]) 3 (.int (turnsF (max A C)))) 4 (.lab 5))
      · apply ex_asg
        apply ev_bin
        · apply ev_ite_f
          · exact ev_chain (ev_var rfl) (evc_one ev_int cmp_int)
          · exact decide_eq_false hr
          · apply ev_list
            · exact evs_nil
            · rfl
            · exact new_list (le_line rfl)
        · exact ev_var rfl
        · exact bin_cat (xs := []) (ys := bs) rfl rfl (new_list (le_1000 hl rfl))
      · refine coder_mid (P := [.list J, .list [lo, hi], .list bs, .list [A, C], .list [], .list bs]) (tl := 5) rfl rfl rfl rfl rfl hlo hhi hb (Nat.le_trans hl (Nat.le_of_ble_eq_true rfl)) fun η' L => ?_
        exact leave_bool (cut_app (σ := [.list J, .list [lo, hi], .list bs]) (τ := [.list [A, C], .list [], .list bs] ++ L) rfl rfl)
end

theorem sp_law {N : List Int} {n : Nat} (hN : N.length ≤ 63) : orc N prices (n + 5) 3599 [.script] [] = some (.bool true, []) := by
  refine Classical.byContradiction fun hG0 => ?_
  have hln : lineOf = 1048576 := rfl
  obtain ⟨_, e1, d, m, rfl⟩ := sp_jar (N := N) (pr := prices) (n := n + 3) hN
  obtain ⟨side, d2, m2, b2, c2, e2⟩ := take0 (N := N) (pr := prices) (n := n + 3) (many := 2) (by decide) (cl1 (l := [d, m]))
  obtain ⟨_, e3, d3, m3, lo, hi, l1, l2, l3, rfl⟩ := sp_models (N := N) (pr := prices) (n := n + 2) (d := d2) (m := m2) (side := side)
  refine hG0 ?_
  have hmost : ∀ β : Bool, (if β = true then (30 : Int) else 10) = 30 ∨ (if β = true then (30 : Int) else 10) = 10 := fun β => by cases β <;> simp
  have hs : side = 0 ∨ side = 1 := by (first | lia | omega)
  have hlo : V lo := ⟨l1, by (first | lia | omega)⟩
  have hhi : V hi := ⟨by (first | lia | omega), l3⟩
  apply fn_eq rfl rfl rfl
  apply wg_next
  · apply ex_asg
    exact ev_call (evs_cons (ev_var rfl) evs_nil) e1
  · apply wg_next
    · apply ex_asg
      exact ev_call (evs_cons (ev_var rfl) (evs_cons ev_int evs_nil)) e2
    · apply wg_next
      · apply ex_asg
        exact ev_call (evs_cons (ev_var rfl) (evs_cons (ev_var rfl) evs_nil)) e3
      · obtain ⟨_, e4, d4, m4, bs, hb, k1, k2, rfl⟩ := sp_bits (N := N) (pr := prices) (n := n + 2) (d := d3) (m := m3) (most := if (intCmp .gt d3 0 || intCmp .gt (N.length : Int) 1) = true then 30 else 10) (ml := [lo, hi]) (hmost _)
        have g := sp_gap (N := N) (n := n + 2) (J := [d4, m4]) (M := [lo, hi]) (bs := bs) ⟨l1, l2, l3⟩ hb ⟨by (first | lia | omega), k2⟩
        have o1 := sp_order (N := N) (n := n + 1) (J := [d4, m4]) (M := [lo, hi]) (bs := bs) hlo hb ⟨by (first | lia | omega), k2⟩
        have o2 := sp_order (N := N) (n := n + 1) (J := [d4, m4]) (M := [lo, hi]) (bs := bs) hhi hb ⟨by (first | lia | omega), k2⟩
        have r1 := sp_run (N := N) (n := n + 1) (J := [d4, m4]) (M := [lo, hi]) (bs := bs) hlo hs
        have r2 := sp_run (N := N) (n := n + 1) (J := [d4, m4]) (M := [lo, hi]) (bs := bs) hhi hs
        have cr := sp_coder (N := N) (n := n) (J := [d4, m4]) hlo hhi hb k2 hs
        apply wg_next
        · apply ex_asg
          apply ev_call
          · apply evs_cons
            · exact ev_var rfl
            · apply evs_cons
              · apply ev_ite_int
                · apply evb_or2
                  · exact ev_chain (ev_sub (ev_var rfl) ev_int (sub_lab (l := [d3, m3]) rfl rfl)) (evc_one ev_int cmp_int)
                  · exact ev_chain (ev_b1 (ev_var rfl) (b1_lens (by (first | lia | omega)))) (evc_one ev_int cmp_int)
                · exact ev_int
                · exact ev_int
              · exact evs_nil
          · exact e4
        · apply wg_iff (β := false)
          · apply ev_not (i := true)
            exact ev_call (evs_cons (ev_sub (ev_var rfl) ev_int (sub_lab (l := [lo, hi]) rfl rfl)) (evs_cons (ev_sub (ev_var rfl) ev_int (sub_lab (l := [lo, hi]) rfl rfl)) (evs_cons (ev_var rfl) evs_nil))) g
          · intro k; cases k
          · intro _
            apply wg_iff (β := false)
            · apply ev_or
              apply evb_go (β := false)
              · apply ev_not (i := true)
                exact ev_call (evs_cons (ev_sub (ev_var rfl) ev_int (sub_lab (l := [lo, hi]) rfl rfl)) (evs_cons (ev_var rfl) evs_nil)) o1
              · rfl
              · apply evb_go (β := false)
                · apply ev_not (i := true)
                  exact ev_call (evs_cons (ev_sub (ev_var rfl) ev_int (sub_lab (l := [lo, hi]) rfl rfl)) (evs_cons (ev_var rfl) evs_nil)) o2
                · rfl
                · exact evb_nil
            · intro k; cases k
            · intro _
              apply wg_iff (β := false)
              · apply ev_or
                apply evb_go (β := false)
                · apply ev_not (i := true)
                  exact ev_call (evs_cons (ev_sub (ev_var rfl) ev_int (sub_lab (l := [lo, hi]) rfl rfl)) (evs_cons (ev_var rfl) evs_nil)) r1
                · rfl
                · apply evb_go (β := false)
                  · apply ev_not (i := true)
                    exact ev_call (evs_cons (ev_sub (ev_var rfl) ev_int (sub_lab (l := [lo, hi]) rfl rfl)) (evs_cons (ev_var rfl) evs_nil)) r2
                  · rfl
                  · exact evb_nil
              · intro k; cases k
              · intro _
                apply wg_ret
                · exact ev_call (evs_cons (ev_var rfl) (evs_cons (ev_var rfl) (evs_cons (ev_var rfl) evs_nil))) cr
                · exact leave_bool rfl
end Tk.P

namespace Tk
open PySem PySem.W PyProof.Rows PySem.Calls

/-- what the walk stands on: the world, the state at the law's call, the script -/
structure Bs where
  w : World
  s1 : Shared
  l : Addr
  ns : List Int
  vs : List Value
structure Bs.Ok (B : Bs) : Prop where
  gr : Gr B.w.params B.s1.heap
  gens : B.s1.gens = #[]
  list : B.s1.heap.IsList B.l B.vs.toArray
  iare : IntsAre B.vs B.ns
  len : B.ns.length ≤ 63

noncomputable def bytesInts (a : Array UInt8) : List Int := a.toList.map fun u => (u.toNat : Int)
/-- the machine's value of a small one -/
noncomputable def VM (B : Bs) (ρ : List Addr) : AV → Value → Prop
  | .int i, V => ∃ t, V = .int i t
  | .bool b, V => V = .bool b
  | .none, V => V = .none
  | .bytes l, V => ∃ a t, V = .bytes a t ∧ bytesInts a = l
  | .lab n, V => ∃ a, ρ[n]? = some a ∧ V = .ref a
  | .script, V => V = .ref B.l
  | .prices, V => V = .ref 304
/-- an object's dict, entry by entry -/
inductive DM (B : Bs) (ρ : List Addr) : List (Nat × AV) → List DictEntry → Prop
  | nil : DM B ρ [] []
  | cons {a v fs e es x t} : attrNames[a]? = some x → e.key = .str x t → VM B ρ v e.val → DM B ρ fs es → DM B ρ ((a, v) :: fs) (e :: es)
noncomputable def OM (B : Bs) (ρ : List Addr) (h : Heap) (a : Addr) : AO → Prop
  | .list l => ∃ vs ep, h.get? a = some ⟨.type "list", none, .seq vs.toArray ep, #[]⟩ ∧ IntsAre vs l
  | .barr l => ∃ b, h.get? a = some ⟨.type "bytearray", none, .bytearray b 0, #[]⟩ ∧ bytesInts b = l
  | .inst c d => ∃ ad, ρ[d]? = some ad ∧ h.get? a = some (instObj c ad) ∧ (c = 192 ∨ c = 276)
  | .dict fs => ∃ es n, h.get? a = some (dictOf es n) ∧ DM B ρ fs es
structure Rel (B : Bs) (ρ : List Addr) (σ : St) (s : Shared) : Prop where
  len : ρ.length = σ.length
  nd : ρ.Nodup
  lo : ∀ a ∈ ρ, B.s1.heap.get? a = none
  obj : ∀ (i : Nat) a o, ρ[i]? = some a → σ[i]? = some o → OM B ρ s.heap a o
  keep : ∀ b o, B.s1.heap.get? b = some o → s.heap.get? b = some o
  gens : s.gens = #[]
  os : s.os = B.s1.os
/-- from state to state: what is not the call's own stays -/
structure Goes (X : Addr → Prop) (ρ : List Addr) (h : Heap) (ρ' : List Addr) (h' : Heap) : Prop where
  pre : ρ <+: ρ'
  new : ∀ a ∈ ρ', a ∈ ρ ∨ h.get? a = none
  keep : ∀ b o, h.get? b = some o → b ∉ ρ → ¬ X b → h'.get? b = some o
  live : ∀ b o, h.get? b = some o → ∃ o', h'.get? b = some o'
noncomputable abbrev Non : Addr → Prop := fun _ => False

theorem getElem?_pre {α : Type} {l l' : List α} (p : l <+: l') {i : Nat} {a : α} (h : l[i]? = some a) : l'[i]? = some a := by
  obtain ⟨t, rfl⟩ := p
  rw [List.getElem?_append_left (List.getElem?_eq_some_iff.mp h).1]; exact h
theorem VM.pre {B : Bs} {ρ ρ' : List Addr} {v : AV} {V : Value} (p : ρ <+: ρ') (h : VM B ρ v V) : VM B ρ' v V := by
  cases v <;> first | exact h | (obtain ⟨a, h1, h2⟩ := h; exact ⟨a, getElem?_pre p h1, h2⟩)
theorem DM.pre {B : Bs} {ρ ρ' : List Addr} {fs es} (p : ρ <+: ρ') (h : DM B ρ fs es) : DM B ρ' fs es := by
  induction h with
  | nil => exact .nil
  | cons a b c d ih => exact .cons a b (c.pre p) ih
theorem OM.pre {B : Bs} {ρ ρ' : List Addr} {h h' : Heap} {a : Addr} {o : AO} (p : ρ <+: ρ') (k : h'.get? a = h.get? a) (x : OM B ρ h a o) : OM B ρ' h' a o := by
  cases o with
  | list l => obtain ⟨vs, ep, e, i⟩ := x; exact ⟨vs, ep, k.trans e, i⟩
  | barr l => obtain ⟨b, e, i⟩ := x; exact ⟨b, k.trans e, i⟩
  | inst c d => obtain ⟨ad, e, i, j⟩ := x; exact ⟨ad, getElem?_pre p e, k.trans i, j⟩
  | dict fs => obtain ⟨es, n, e, i⟩ := x; exact ⟨es, n, k.trans e, i.pre p⟩
theorem OM.alive {B : Bs} {ρ : List Addr} {h : Heap} {a : Addr} {o : AO} (x : OM B ρ h a o) : ∃ ob, h.get? a = some ob := by
  cases o with
  | list l => obtain ⟨vs, ep, e, i⟩ := x; exact ⟨_, e⟩
  | barr l => obtain ⟨b, e, i⟩ := x; exact ⟨_, e⟩
  | inst c d => obtain ⟨ad, e, i, j⟩ := x; exact ⟨_, i⟩
  | dict fs => obtain ⟨es, n, e, i⟩ := x; exact ⟨_, e⟩

theorem Goes.refl {X : Addr → Prop} {ρ : List Addr} {h : Heap} : Goes X ρ h ρ h := ⟨List.prefix_refl _, fun _ h => .inl h, fun _ _ e _ _ => e, fun _ o e => ⟨o, e⟩⟩
theorem Goes.none {X : Addr → Prop} {ρ ρ' : List Addr} {h h' : Heap} (a : Goes X ρ h ρ' h') {b : Addr} (e : h'.get? b = none) : h.get? b = none := by
  cases q : h.get? b with
  | none => rfl
  | some o => obtain ⟨o', e'⟩ := a.live b o q; rw [e] at e'; cases e'
theorem Goes.trans {X : Addr → Prop} {ρ ρ' ρ'' : List Addr} {h h' h'' : Heap} (a : Goes X ρ h ρ' h') (b : Goes X ρ' h' ρ'' h'') : Goes X ρ h ρ'' h'' where
  pre := a.pre.trans b.pre
  new := fun x hx => (b.new x hx).elim (fun hx => a.new x hx) fun hx => .inr (a.none hx)
  keep := fun x o e n nx => b.keep x o (a.keep x o e n nx) (fun hx => (a.new x hx).elim n fun hx => by rw [e] at hx; cases hx) nx
  live := fun x o e => by obtain ⟨o', e'⟩ := a.live x o e; exact b.live x o' e'
theorem Goes.mono {X Y : Addr → Prop} {ρ ρ' : List Addr} {h h' : Heap} (a : Goes X ρ h ρ' h') (k : ∀ b, X b → Y b) : Goes Y ρ h ρ' h' :=
  ⟨a.pre, a.new, fun b o e n nx => a.keep b o e n fun hx => nx (k b hx), a.live⟩
theorem Goes.any {Y : Addr → Prop} {ρ ρ' : List Addr} {h h' : Heap} (a : Goes Non ρ h ρ' h') : Goes Y ρ h ρ' h' := a.mono fun _ h => h.elim
/-- nothing of the call's own moved -/
theorem Rel.still {B : Bs} {ρ : List Addr} {σ : St} {s s' : Shared} (R : Rel B ρ σ s) (k : ∀ b o, s.heap.get? b = some o → s'.heap.get? b = some o) (g : s'.gens = s.gens) (o : s'.os = s.os) : Rel B ρ σ s' where
  len := R.len
  nd := R.nd
  lo := R.lo
  obj := fun i a ao h1 h2 => by
    have x := R.obj i a ao h1 h2
    obtain ⟨ob, e⟩ := x.alive
    exact x.pre (List.prefix_refl _) ((k _ _ e).trans e.symm)
  keep := fun b ob e => k _ _ (R.keep b ob e)
  gens := g.trans R.gens
  os := o.trans R.os
theorem Rel.stillBut {B : Bs} {ρ : List Addr} {σ : St} {s s' : Shared} (R : Rel B ρ σ s) (X : Addr → Prop) (hX : ∀ b, X b → b ∉ ρ ∧ B.s1.heap.get? b = none) (k : ∀ b o, s.heap.get? b = some o → ¬ X b → s'.heap.get? b = some o) (g : s'.gens = s.gens) (o : s'.os = s.os) : Rel B ρ σ s' where
  len := R.len
  nd := R.nd
  lo := R.lo
  obj := fun i a ao h1 h2 => by
    have x := R.obj i a ao h1 h2
    obtain ⟨ob, e⟩ := x.alive
    exact x.pre (List.prefix_refl _) ((k _ _ e fun q => (hX a q).1 (List.mem_of_getElem? h1)).trans e.symm)
  keep := fun b ob e => k _ _ (R.keep b ob e) fun q => by rw [(hX b q).2] at e; cases e
  gens := g.trans R.gens
  os := o.trans R.os
theorem goes_keeps {X : Addr → Prop} {ρ : List Addr} {h h' : Heap} (k : ∀ b o, h.get? b = some o → h'.get? b = some o) : Goes X ρ h ρ h' := ⟨List.prefix_refl _, fun _ h => .inl h, fun b o e _ _ => k b o e, fun b o e => ⟨o, k b o e⟩⟩
/-- a new object -/
theorem Rel.push {B : Bs} {ρ : List Addr} {σ : St} {s s' : Shared} {ao : AO} (R : Rel B ρ σ s) {x : Addr} (hx : s.heap.get? x = none) (k : ∀ b o, s.heap.get? b = some o → s'.heap.get? b = some o)
    (new : OM B (ρ ++ [x]) s'.heap x ao) (g : s'.gens = s.gens) (o : s'.os = s.os) : Rel B (ρ ++ [x]) (σ ++ [ao]) s' where
  len := by rw [List.length_append, List.length_append, R.len]; rfl
  nd := by
    refine List.nodup_append.mpr ⟨R.nd, (List.nodup_cons.mpr ⟨List.not_mem_nil, List.nodup_nil⟩), fun a ha b hb e => ?_⟩
    rw [List.mem_singleton] at hb
    subst hb
    obtain ⟨i, hi, q⟩ := List.getElem_of_mem ha
    have h1 : ρ[i]? = some a := by rw [List.getElem?_eq_getElem hi, q]
    have h2 : ∃ o, σ[i]? = some o := ⟨_, List.getElem?_eq_getElem (R.len ▸ hi)⟩
    obtain ⟨o, h2⟩ := h2
    obtain ⟨ob, e'⟩ := (R.obj i a o h1 h2).alive
    rw [e, hx] at e'; cases e'
  lo := fun a ha => by
    rcases List.mem_append.mp ha with ha | ha
    · exact R.lo a ha
    · rw [List.mem_singleton] at ha; subst ha
      cases q : B.s1.heap.get? a with
      | none => rfl
      | some o => rw [R.keep _ _ q] at hx; cases hx
  obj := fun i a o h1 h2 => by
    by_cases hi : i < ρ.length
    · rw [List.getElem?_append_left hi] at h1
      rw [List.getElem?_append_left (R.len ▸ hi)] at h2
      have x := R.obj i a o h1 h2
      obtain ⟨ob, e⟩ := x.alive
      exact x.pre (List.prefix_append _ _) ((k _ _ e).trans e.symm)
    · have hi' : i = ρ.length := by
        have := (List.getElem?_eq_some_iff.mp h1).1
        rw [List.length_append] at this
        simp only [List.length_cons, List.length_nil] at this
        (first | lia | omega)
      subst hi'
      rw [List.getElem?_append_right (Nat.le_refl _), Nat.sub_self] at h1
      rw [R.len, List.getElem?_append_right (Nat.le_refl _), Nat.sub_self] at h2
      cases h1; cases h2
      exact new
  keep := fun b ob e => k _ _ (R.keep b ob e)
  gens := g.trans R.gens
  os := o.trans R.os
theorem get_size (h : Heap) : h.get? h.objs.size = none := by unfold Heap.get?; rw [Array.getElem?_eq_none (Nat.le_refl _)]
theorem get_size1 (h : Heap) (k : Nat) : h.get? (h.objs.size + k) = none := by unfold Heap.get?; rw [Array.getElem?_eq_none (Nat.le_add_right _ _)]
end Tk

namespace Tk
open PySem PySem.W PyProof.Rows PySem.Calls

noncomputable def Has (h : Heap) (env : Env) (x : Str) (V : Value) : Prop :=
  (env.kindOf x = some .local ∧ ∃ m, h.Ns env.locals m ∧ m x = some V) ∨ (env.kindOf x = some .cell ∧ ∃ c, env.cells.lookup x = some c ∧ h.IsCell c (some V))
/-- what a frame may change -/
noncomputable def FX (env : Env) (b : Addr) : Prop := b = env.locals ∨ ∃ x, env.cells.lookup x = some b
structure Frm (B : Bs) (env : Env) (nm : List Str) (η : En) (ρ : List Addr) (h : Heap) : Prop where
  kind : env.scope.kind = .function
  glob : env.globals = 3
  blt : env.builtins = 0
  ns : ∃ m, h.Ns env.locals m
  cells : ∀ x c, env.cells.lookup x = some c → ∃ v, h.IsCell c v
  have_ : ∀ x, env.kindOf x = some .cell → ∃ c, env.cells.lookup x = some c
  own : ∀ b, FX env b → b ∉ ρ ∧ B.s1.heap.get? b = none
  sep : ∀ x c, env.cells.lookup x = some c → c ≠ env.locals
  apart : ∀ x y c, env.cells.lookup x = some c → env.cells.lookup y = some c → x = y
  nd : nm.Nodup
  val : ∀ (i : Nat) v, η i = some v → ∃ x V, nm[i]? = some x ∧ Has h env x V ∧ VM B ρ v V

theorem Frm.lt {B : Bs} {env : Env} {nm : List Str} {η : En} {ρ : List Addr} {h : Heap} (F : Frm B env nm η ρ h) {b : Addr} (x : FX env b) : ∃ o, h.get? b = some o := by
  rcases x with rfl | ⟨x, e⟩
  · obtain ⟨m, o, _, _, ho, _⟩ := F.ns; exact ⟨o, ho⟩
  · obtain ⟨v, o, ho, _⟩ := F.cells x b e; exact ⟨o, ho⟩
theorem ns_at {h h' : Heap} {a : Addr} {m} (x : h.Ns a m) (k : ∀ o, h.get? a = some o → h'.get? a = some o) : h'.Ns a m := let ⟨o, es, ep, e, r⟩ := x; ⟨o, es, ep, k _ e, r⟩
theorem cell_at {h h' : Heap} {a : Addr} {v} (x : h.IsCell a v) (k : ∀ o, h.get? a = some o → h'.get? a = some o) : h'.IsCell a v := let ⟨o, e, r⟩ := x; ⟨o, k _ e, r⟩
theorem Has.at {h h' : Heap} {env : Env} {x : Str} {V : Value} (z : Has h env x V) (k : ∀ b o, FX env b → h.get? b = some o → h'.get? b = some o) : Has h' env x V := by
  rcases z with ⟨a, m, n, e⟩ | ⟨a, c, e, n⟩
  · exact .inl ⟨a, m, ns_at n fun o q => k _ o (.inl rfl) q, e⟩
  · exact .inr ⟨a, c, e, cell_at n fun o q => k _ o (.inr ⟨x, e⟩) q⟩
theorem Frm.keeps {B : Bs} {env : Env} {nm : List Str} {η : En} {ρ ρ' : List Addr} {h h' : Heap} (F : Frm B env nm η ρ h) (p : ρ <+: ρ') (hn : ∀ a ∈ ρ', a ∈ ρ ∨ h.get? a = none)
    (k : ∀ b o, FX env b → h.get? b = some o → h'.get? b = some o) : Frm B env nm η ρ' h' where
  kind := F.kind
  glob := F.glob
  blt := F.blt
  ns := let ⟨m, n⟩ := F.ns; ⟨m, ns_at n fun o q => k _ o (.inl rfl) q⟩
  cells := fun x c e => let ⟨v, n⟩ := F.cells x c e; ⟨v, cell_at n fun o q => k _ o (.inr ⟨x, e⟩) q⟩
  have_ := F.have_
  own := fun b x => ⟨fun hb => (hn b hb).elim (F.own b x).1 (fun q => by obtain ⟨o, e⟩ := F.lt x; rw [e] at q; cases q), (F.own b x).2⟩
  sep := F.sep
  apart := F.apart
  nd := F.nd
  val := fun i v e => let ⟨x, V, a, b, c⟩ := F.val i v e; ⟨x, V, a, b.at k, c.pre p⟩
theorem Frm.go {B : Bs} {env : Env} {nm : List Str} {η : En} {ρ ρ' : List Addr} {h h' : Heap} (F : Frm B env nm η ρ h) (G : Goes Non ρ h ρ' h') : Frm B env nm η ρ' h' :=
  F.keeps G.pre G.new fun b o x e => G.keep b o e (F.own b x).1 id

noncomputable abbrev WpA {α : Type} (B : Bs) (A : Around) (t : Sem α) (Q : α → Shared → Prop) (s : Shared) : Prop := wpAny (model pw B.w) A t Q (fun _ _ => False) s
theorem WpA.mono {α : Type} {B : Bs} {A : Around} {m : Sem α} {Q : α → Shared → Prop} {P : α → Shared → Prop} {s : Shared} (h : WpA B A m P s) (k : ∀ a s', P a s' → Q a s') : WpA B A m Q s :=
  wpAny_mono h k fun _ _ x => x
/-- what an expression gives -/
noncomputable def PV (B : Bs) (ρ : List Addr) (s : Shared) (σ' : St) (v : AV) (V : Value) (s' : Shared) : Prop := ∃ ρ', Goes Non ρ s.heap ρ' s'.heap ∧ Rel B ρ' σ' s' ∧ VM B ρ' v V
structure Room (A : Around) (n : Nat) : Prop where
  handled : A.handled = none
  depth : A.depth + 4 * n + 4 < recursionLimit
  units : A.units + 100 * n + 100 < cLine
/-- the oracle's answers are the machine's -/
inductive VMs (B : Bs) (ρ : List Addr) : List AV → List Value → Prop
  | nil : VMs B ρ [] []
  | cons {v V vs Vs} : VM B ρ v V → VMs B ρ vs Vs → VMs B ρ (v :: vs) (V :: Vs)
theorem VMs.pre {B : Bs} {ρ ρ' : List Addr} {v : List AV} {V : List Value} (p : ρ <+: ρ') (h : VMs B ρ v V) : VMs B ρ' v V := by
  induction h with
  | nil => exact .nil
  | cons a b ih => exact .cons (a.pre p) ih
theorem VMs.length {B : Bs} {ρ : List Addr} {v : List AV} {V : List Value} (h : VMs B ρ v V) : v.length = V.length := by
  induction h with
  | nil => rfl
  | cons a b ih => simp [ih]
section
variable {B : Bs} {O : Orc} {nm : List Str} {A : Around} {env : Env} {η : En} {σ σ' σ'' : St} {ρ ρ' : List Addr} {s s' : Shared} {v v' : AV} {V : Value}

theorem PV.now (R : Rel B ρ σ s) (h : VM B ρ v V) : PV B ρ s σ v V s := ⟨ρ, .refl, R, h⟩
theorem PV.after {s'' : Shared} (G : Goes Non ρ s.heap ρ' s'.heap) (h : PV B ρ' s' σ'' v V s'') : PV B ρ s σ'' v V s'' := by
  refine Classical.byContradiction fun hG0 => ?_
  obtain ⟨r, g, R, x⟩ := h
  refine hG0 ?_
  exact ⟨r, G.trans g, R, x⟩
theorem PV.tok {n : Nat} (h : PV B ρ s σ' v V s') : PV B ρ s σ' v V { s' with toks := n } := by
  refine Classical.byContradiction fun hG0 => ?_
  obtain ⟨r, g, R, x⟩ := h
  refine hG0 ?_
  exact ⟨r, g, R.still (fun _ _ e => e) rfl rfl, x⟩
/-- only tokens moved -/
theorem Rel.tok (R : Rel B ρ σ s) {n : Nat} : Rel B ρ σ { s with toks := n } := R.still (fun _ _ e => e) rfl rfl
/-- the heap only grew -/
theorem PV.grew (R : Rel B ρ σ s) (k : ∀ b o, s.heap.get? b = some o → s'.heap.get? b = some o) (g : s'.gens = s.gens) (o : s'.os = s.os) (h : VM B ρ v V) : PV B ρ s σ v V s' :=
  ⟨ρ, goes_keeps k, R.still k g o, h⟩
/-- a new list -/
theorem PV.newList {l : List Int} {vs : List Value} {x : Addr} {ep : Nat} (R : Rel B ρ σ s) (k : ∀ b o, s.heap.get? b = some o → s'.heap.get? b = some o) (g : s'.gens = s.gens) (o : s'.os = s.os)
    (hx : s.heap.get? x = none) (ho : s'.heap.get? x = some ⟨.type "list", none, .seq vs.toArray ep, #[]⟩) (hi : IntsAre vs l) : PV B ρ s (σ ++ [.list l]) (.lab σ.length) (.ref x) s' := by
  refine ⟨ρ ++ [x], ⟨List.prefix_append _ _, fun a ha => ?_, fun b ob e _ _ => k b ob e, fun b ob e => ⟨ob, k b ob e⟩⟩, R.push hx k ⟨vs, ep, ho, hi⟩ g o, x, ?_, rfl⟩
  · rcases List.mem_append.mp ha with ha | ha
    · exact .inl ha
    · rw [List.mem_singleton] at ha; subst ha; exact .inr hx
  · rw [← R.len, List.getElem?_append_right (Nat.le_refl _), Nat.sub_self]; rfl

/-! names -/
theorem load_name {x : Str} {Q : Value → Shared → Prop} (hk : env.scope.kind = .function) (z : Has s.heap env x V) (h : Q V s) : WpA B A (loadName env x) Q s := by
  rcases z with ⟨a, m, n, e⟩ | ⟨a, c, e, n⟩
  · exact wpAny_loadName_local hk a n e h
  · exact wpAny_loadName_cell hk a e n h
theorem isVar_of {sc : Scope} {i : Nat} {x : Str} (h : isVar nm sc i x = true) : nm[i]? = some x ∧ (sc.names.lookup x = some .local ∨ sc.names.lookup x = some .cell) ∧ (x == ("__debug__" : Str)) = false := by
  unfold isVar at h
  simp only [Bool.and_eq_true, Bool.or_eq_true, Bool.not_eq_true', beq_iff_eq] at h
  refine ⟨h.1.1, h.1.2, ?_⟩
  exact h.2
theorem ev_var {i : Nat} {x : Str} {pos : Pos} (hc : isVar nm env.scope i x = true) (e : η i = some v) (R : Rel B ρ σ s) (F : Frm B env nm η ρ s.heap) : WpA B A (eval (.Name x pos) env) (PV B ρ s σ v) s := by
  refine Classical.byContradiction fun hG0 => ?_
  obtain ⟨h1, h2, h3⟩ := isVar_of hc
  obtain ⟨y, V, q, z, m⟩ := F.val i v e
  refine hG0 ?_
  rw [h1] at q; cases q
  exact wpAny_Name (load_name F.kind z (PV.now R m)) h3

/-! globals -/
theorem Rel.gr (R : Rel B ρ σ s) (K : B.Ok) : Gr B.w.params s.heap := K.gr.keeps R.keep
theorem Rel.ns3 (R : Rel B ρ σ s) (K : B.Ok) : s.heap.Ns 3 (findIn3 (F3 B.w.params)) := ⟨F3 B.w.params, _, _, (R.gr K).at 10 rfl, rfl, global_keys B.w.params, fun _ => rfl⟩
theorem isGlob_of {sc : Scope} {x : Str} (h : isGlob sc x = true) : sc.names.lookup x = some .globalImplicit ∧ (x == ("__debug__" : Str)) = false := by
  unfold isGlob at h
  simp only [Bool.and_eq_true, Bool.not_eq_true', beq_iff_eq] at h
  exact h
theorem ev_global {x : Str} {pos : Pos} {W : Value} {Q : Value → Shared → Prop} (K : B.Ok) (hc : isGlob env.scope x = true) (R : Rel B ρ σ s) (F : Frm B env nm η ρ s.heap) (e : findIn3 (F3 B.w.params) x = some W) (h : Q W s) :
    WpA B A (eval (.Name x pos) env) Q s := by
  obtain ⟨h1, h2⟩ := isGlob_of hc
  exact Name_function_global F.kind h1 (loadGlobal_global (by rw [F.glob]; exact R.ns3 K) e h) h2

noncomputable def blts : List (Str × Value) := [("len", .builtin "len"), ("abs", .builtin "abs"), ("sorted", .builtin "sorted"), ("sum", .builtin "sum"), ("int", .type "int"), ("bytes", .type "bytes"), ("max", .builtin "max"),
  ("bytearray", .type "bytearray"), ("isinstance", .builtin "isinstance"), ("range", .type "range"), ("enumerate", .type "enumerate")]
theorem blts_ok (P : Params) : blts.all (fun x => (findIn3 (F3 P) x.1).isNone && bootBuiltins x.1 == some x.2 && !(x.1 == ("__name__" : Str))) = true := by
  have : (fun P : Params => blts.all (fun x => (findIn3 (F3 P) x.1).isNone && bootBuiltins x.1 == some x.2 && !(x.1 == ("__name__" : Str)))) = fun _ => true := by kernel_rfl
  exact congrFun this P
theorem gints_ok (P : Params) : gints.all (fun x => match findIn3 (F3 P) x.1 with | some (.int k _) => k == x.2 | _ => false) = true := by
  have : (fun P : Params => gints.all (fun x => match findIn3 (F3 P) x.1 with | some (.int k _) => k == x.2 | _ => false)) = fun _ => true := by kernel_rfl
  exact congrFun this P
theorem gfuns_ok (P : Params) : gfuns.all (fun x => findIn3 (F3 P) x.2 == some (.ref x.1)) = true := by
  have : (fun P : Params => gfuns.all (fun x => findIn3 (F3 P) x.2 == some (.ref x.1))) = fun _ => true := by kernel_rfl
  exact congrFun this P
end
end Tk

namespace Tk
open PySem
theorem anyS {α : Type} {o : Option α} {p : α → Bool} (h : o.any p = true) : ∃ x, o = some x ∧ p x = true := by
  cases o with
  | none => exact absurd h Bool.false_ne_true
  | some x => exact ⟨x, rfl, h⟩
theorem nn {α : Type} {x : α} {P : Prop} (h : (none : Option α) = some x) : P := nomatch h
theorem andS {a b : Bool} (h : (a && b) = true) : a = true ∧ b = true := Bool.and_eq_true_iff.mp h
theorem A2 {a b : Bool} (h : (a && b) = true) : (a = true) ∧ b = true := andS h
theorem A3 {a b c : Bool} (h : (a && b && c) = true) : ((a = true) ∧ b = true) ∧ c = true := ⟨A2 (andS h).1, (andS h).2⟩
theorem A4 {a b c d : Bool} (h : (a && b && c && d) = true) : (((a = true) ∧ b = true) ∧ c = true) ∧ d = true := ⟨A3 (andS h).1, (andS h).2⟩
theorem A5 {a b c d e : Bool} (h : (a && b && c && d && e) = true) : ((((a = true) ∧ b = true) ∧ c = true) ∧ d = true) ∧ e = true := ⟨A4 (andS h).1, (andS h).2⟩
theorem A6 {a b c d e f : Bool} (h : (a && b && c && d && e && f) = true) : (((((a = true) ∧ b = true) ∧ c = true) ∧ d = true) ∧ e = true) ∧ f = true := ⟨A5 (andS h).1, (andS h).2⟩
theorem A7 {a b c d e f g : Bool} (h : (a && b && c && d && e && f && g) = true) : ((((((a = true) ∧ b = true) ∧ c = true) ∧ d = true) ∧ e = true) ∧ f = true) ∧ g = true := ⟨A6 (andS h).1, (andS h).2⟩
theorem A8 {a b c d e f g i : Bool} (h : (a && b && c && d && e && f && g && i) = true) : (((((((a = true) ∧ b = true) ∧ c = true) ∧ d = true) ∧ e = true) ∧ f = true) ∧ g = true) ∧ i = true := ⟨A7 (andS h).1, (andS h).2⟩
theorem emptyS {α : Type} {l : List α} (h : isEmptyL l = true) : l = [] := by
  cases l with
  | nil => rfl
  | cons x r => exact absurd h Bool.false_ne_true
theorem unS {α : Type} {l : List α} {x : α × List α} (h : uncons l = some x) : l = x.1 :: x.2 := by
  cases l with
  | nil => cases h
  | cons y r => cases h; rfl
theorem oneS {α : Type} {l : List α} {x : α} (h : one l = some x) : l = [x] := by
  obtain ⟨y, h1, h2⟩ := Option.bind_eq_some_iff.mp h
  by_cases he : isEmptyL y.2 = true
  · rw [if_pos he] at h2; cases h2; rw [unS h1, emptyS he]
  · rw [if_neg he] at h2; cases h2
theorem twoS {α : Type} {l : List α} {x : α × α} (h : two l = some x) : l = [x.1, x.2] := by
  obtain ⟨y, h1, h2⟩ := Option.bind_eq_some_iff.mp h
  obtain ⟨z, h3, rfl⟩ := Option.map_eq_some_iff.mp h2
  rw [unS h1, oneS h3]
theorem iName {e : Expr} {x} (h : vName e = some x) : e = .Name x.1 x.2 := by
  by_cases k : e.ctorIdx = 23
  · exact Expr.Name.elim (motive_1 := fun e => vName e = some x → e = .Name x.1 x.2) e k (fun a b h => by have h : some (a, b) = some x := h; cases h; rfl) h
  · unfold vName at h; rw [dif_neg k] at h; cases h
theorem iBin {e : Expr} {x} (h : vBin e = some x) : e = .BinOp x.1 x.2.1 x.2.2.1 x.2.2.2 := by
  by_cases k : e.ctorIdx = 2
  · exact Expr.BinOp.elim (motive_1 := fun e => vBin e = some x → e = .BinOp x.1 x.2.1 x.2.2.1 x.2.2.2) e k (fun a b c d h => by have h : some (a, b, c, d) = some x := h; cases h; rfl) h
  · unfold vBin at h; rw [dif_neg k] at h; cases h
theorem iUn {e : Expr} {x} (h : vUn e = some x) : e = .UnaryOp x.1 x.2.1 x.2.2 := by
  by_cases k : e.ctorIdx = 3
  · exact Expr.UnaryOp.elim (motive_1 := fun e => vUn e = some x → e = .UnaryOp x.1 x.2.1 x.2.2) e k (fun a b c h => by have h : some (a, b, c) = some x := h; cases h; rfl) h
  · unfold vUn at h; rw [dif_neg k] at h; cases h
theorem iBo {e : Expr} {x} (h : vBo e = some x) : e = .BoolOp x.1 x.2.1 x.2.2 := by
  by_cases k : e.ctorIdx = 0
  · exact Expr.BoolOp.elim (motive_1 := fun e => vBo e = some x → e = .BoolOp x.1 x.2.1 x.2.2) e k (fun a b c h => by have h : some (a, b, c) = some x := h; cases h; rfl) h
  · unfold vBo at h; rw [dif_neg k] at h; cases h
theorem iCmp {e : Expr} {x} (h : vCmp e = some x) : e = .Compare x.1 x.2.1 x.2.2.1 x.2.2.2 := by
  by_cases k : e.ctorIdx = 15
  · exact Expr.Compare.elim (motive_1 := fun e => vCmp e = some x → e = .Compare x.1 x.2.1 x.2.2.1 x.2.2.2) e k (fun a b c d h => by have h : some (a, b, c, d) = some x := h; cases h; rfl) h
  · unfold vCmp at h; rw [dif_neg k] at h; cases h
theorem iIf {e : Expr} {x} (h : vIf e = some x) : e = .IfExp x.1 x.2.1 x.2.2.1 x.2.2.2 := by
  by_cases k : e.ctorIdx = 5
  · exact Expr.IfExp.elim (motive_1 := fun e => vIf e = some x → e = .IfExp x.1 x.2.1 x.2.2.1 x.2.2.2) e k (fun a b c d h => by have h : some (a, b, c, d) = some x := h; cases h; rfl) h
  · unfold vIf at h; rw [dif_neg k] at h; cases h
theorem iCall {e : Expr} {x} (h : vCall e = some x) : e = .Call x.1 x.2.1 x.2.2.1 x.2.2.2 := by
  by_cases k : e.ctorIdx = 16
  · exact Expr.Call.elim (motive_1 := fun e => vCall e = some x → e = .Call x.1 x.2.1 x.2.2.1 x.2.2.2) e k (fun a b c d h => by have h : some (a, b, c, d) = some x := h; cases h; rfl) h
  · unfold vCall at h; rw [dif_neg k] at h; cases h
theorem iAttr {e : Expr} {x} (h : vAttr e = some x) : e = .Attribute x.1 x.2.1 x.2.2 := by
  by_cases k : e.ctorIdx = 20
  · exact Expr.Attribute.elim (motive_1 := fun e => vAttr e = some x → e = .Attribute x.1 x.2.1 x.2.2) e k (fun a b c h => by have h : some (a, b, c) = some x := h; cases h; rfl) h
  · unfold vAttr at h; rw [dif_neg k] at h; cases h
theorem iSub {e : Expr} {x} (h : vSub e = some x) : e = .Subscript x.1 x.2.1 x.2.2 := by
  by_cases k : e.ctorIdx = 21
  · exact Expr.Subscript.elim (motive_1 := fun e => vSub e = some x → e = .Subscript x.1 x.2.1 x.2.2) e k (fun a b c h => by have h : some (a, b, c) = some x := h; cases h; rfl) h
  · unfold vSub at h; rw [dif_neg k] at h; cases h
theorem iSlice {e : Expr} {x} (h : vSlice e = some x) : e = .Slice x.1 x.2.1 x.2.2.1 x.2.2.2 := by
  by_cases k : e.ctorIdx = 26
  · exact Expr.Slice.elim (motive_1 := fun e => vSlice e = some x → e = .Slice x.1 x.2.1 x.2.2.1 x.2.2.2) e k (fun a b c d h => by have h : some (a, b, c, d) = some x := h; cases h; rfl) h
  · unfold vSlice at h; rw [dif_neg k] at h; cases h
theorem iTup {e : Expr} {x} (h : vTup e = some x) : e = .Tuple x.1 x.2.1 x.2.2 := by
  by_cases k : e.ctorIdx = 25
  · exact Expr.Tuple.elim (motive_1 := fun e => vTup e = some x → e = .Tuple x.1 x.2.1 x.2.2) e k (fun a b c h => by have h : some (a, b, c) = some x := h; cases h; rfl) h
  · unfold vTup at h; rw [dif_neg k] at h; cases h
theorem iList {e : Expr} {x} (h : vList e = some x) : e = .List x.1 x.2 := by
  by_cases k : e.ctorIdx = 24
  · exact Expr.List.elim (motive_1 := fun e => vList e = some x → e = .List x.1 x.2) e k (fun a b h => by have h : some (a, b) = some x := h; cases h; rfl) h
  · unfold vList at h; rw [dif_neg k] at h; cases h
theorem iLC {e : Expr} {x} (h : vLC e = some x) : e = .ListComp x.1 x.2.1 x.2.2.1 x.2.2.2 := by
  by_cases k : e.ctorIdx = 8
  · exact Expr.ListComp.elim (motive_1 := fun e => vLC e = some x → e = .ListComp x.1 x.2.1 x.2.2.1 x.2.2.2) e k (fun a b c d h => by have h : some (a, b, c, d) = some x := h; cases h; rfl) h
  · unfold vLC at h; rw [dif_neg k] at h; cases h
theorem iCon {e : Expr} {x} (h : vCon e = some x) : e = .Constant x.1 x.2.1 x.2.2 := by
  by_cases k : e.ctorIdx = 19
  · exact Expr.Constant.elim (motive_1 := fun e => vCon e = some x → e = .Constant x.1 x.2.1 x.2.2) e k (fun a b c h => by have h : some (a, b, c) = some x := h; cases h; rfl) h
  · unfold vCon at h; rw [dif_neg k] at h; cases h
theorem iAsg {e : Stmt} {x} (h : vAsg e = some x) : e = .Assign x.1 x.2.1 x.2.2 := by
  by_cases k : e.ctorIdx = 5
  · exact Stmt.Assign.elim (motive_2 := fun e => vAsg e = some x → e = .Assign x.1 x.2.1 x.2.2) e k (fun a b c h => by have h : some (a, b, c) = some x := h; cases h; rfl) h
  · unfold vAsg at h; rw [dif_neg k] at h; cases h
theorem iAug {e : Stmt} {x} (h : vAug e = some x) : e = .AugAssign x.1 x.2.1 x.2.2.1 x.2.2.2 := by
  by_cases k : e.ctorIdx = 7
  · exact Stmt.AugAssign.elim (motive_2 := fun e => vAug e = some x → e = .AugAssign x.1 x.2.1 x.2.2.1 x.2.2.2) e k (fun a b c d h => by have h : some (a, b, c, d) = some x := h; cases h; rfl) h
  · unfold vAug at h; rw [dif_neg k] at h; cases h
theorem iFor {e : Stmt} {x} (h : vFor e = some x) : e = .For x.1 x.2.1 x.2.2.1 x.2.2.2.1 x.2.2.2.2 := by
  by_cases k : e.ctorIdx = 9
  · exact Stmt.For.elim (motive_2 := fun e => vFor e = some x → e = .For x.1 x.2.1 x.2.2.1 x.2.2.2.1 x.2.2.2.2) e k (fun a b c d e h => by have h : some (a, b, c, d, e) = some x := h; cases h; rfl) h
  · unfold vFor at h; rw [dif_neg k] at h; cases h
theorem iIfS {e : Stmt} {x} (h : vIfS e = some x) : e = .If x.1 x.2.1 x.2.2.1 x.2.2.2 := by
  by_cases k : e.ctorIdx = 12
  · exact Stmt.If.elim (motive_2 := fun e => vIfS e = some x → e = .If x.1 x.2.1 x.2.2.1 x.2.2.2) e k (fun a b c d h => by have h : some (a, b, c, d) = some x := h; cases h; rfl) h
  · unfold vIfS at h; rw [dif_neg k] at h; cases h
theorem iRet {e : Stmt} {x} (h : vRet e = some x) : e = .Return x.1 x.2 := by
  by_cases k : e.ctorIdx = 3
  · exact Stmt.Return.elim (motive_2 := fun e => vRet e = some x → e = .Return x.1 x.2) e k (fun a b h => by have h : some (a, b) = some x := h; cases h; rfl) h
  · unfold vRet at h; rw [dif_neg k] at h; cases h
theorem iExp {e : Stmt} {x} (h : vExp e = some x) : e = .Expr x.1 x.2 := by
  by_cases k : e.ctorIdx = 24
  · exact Stmt.Expr.elim (motive_2 := fun e => vExp e = some x → e = .Expr x.1 x.2) e k (fun a b h => by have h : some (a, b) = some x := h; cases h; rfl) h
  · unfold vExp at h; rw [dif_neg k] at h; cases h
theorem jInt {c : Const} {i} (h : cInt c = some i) : c = .int i := by cases c <;> first | (cases h; done) | (cases h; rfl)
theorem jBool {c : Const} {i} (h : cBool c = some i) : c = .bool i := by cases c <;> first | (cases h; done) | (cases h; rfl)
theorem jNone {c : Const} (h : cNone c = true) : c = .none := by cases c <;> first | rfl | exact absurd h Bool.false_ne_true
theorem iInt {e : Expr} {x} (h : vInt e = some x) : e = .Constant (.int x.1) x.2.1 x.2.2 := by
  refine Classical.byContradiction fun hG0 => ?_
  obtain ⟨y, hy, h⟩ := Option.bind_eq_some_iff.mp h
  obtain ⟨i, hi, rfl⟩ := Option.map_eq_some_iff.mp h
  refine hG0 ?_
  rw [iCon hy, jInt hi]
theorem iBoolC {e : Expr} {x} (h : vBoolC e = some x) : e = .Constant (.bool x.1) x.2.1 x.2.2 := by
  refine Classical.byContradiction fun hG0 => ?_
  obtain ⟨y, hy, h⟩ := Option.bind_eq_some_iff.mp h
  obtain ⟨i, hi, rfl⟩ := Option.map_eq_some_iff.mp h
  refine hG0 ?_
  rw [iCon hy, jBool hi]
theorem iNone {e : Expr} {x} (h : vNone e = some x) : e = .Constant .none x.1 x.2 := by
  refine Classical.byContradiction fun hG0 => ?_
  obtain ⟨y, hy, h⟩ := Option.bind_eq_some_iff.mp h
  refine hG0 ?_
  by_cases hc : cNone y.1 = true
  · rw [if_pos hc] at h; cases h; rw [iCon hy, jNone hc]
  · rw [if_neg hc] at h; cases h
theorem star_at {x : Expr} (h : notStar x = true) (ys : List Expr) (env : Env) : starEach (x :: ys) env = (false, eval x env) :: starEach ys env := by
  cases x <;> first | rfl | (exact absurd h Bool.false_ne_true)
theorem set_at' {x : Expr} (h : notSet x = true) (env : Env) (y : Value) : foldedSetIterable x env y = pure y := by
  cases x <;> first | rfl | (exact absurd h Bool.false_ne_true)
theorem atE {α : Type} {P : α → Prop} {a b : α} (e : a = b) (h : P b) : P a := by rw [e]; exact h
section
variable {nm : List Str} {sc : Scope} {ast : Expr}
@[elab_as_elim] theorem chz_int {P : Expr → Prop} {i} (h : chk nm sc (.int i) ast = true) (k : ∀ j k p, (i == j) = true → P (.Constant (.int j) k p)) : P ast := let ⟨_, hx, h⟩ := anyS h; atE (iInt hx) (k _ _ _ h)
@[elab_as_elim] theorem chz_bool {P : Expr → Prop} {i} (h : chk nm sc (.bool i) ast = true) (k : ∀ j k p, (i == j) = true → P (.Constant (.bool j) k p)) : P ast := let ⟨_, hx, h⟩ := anyS h; atE (iBoolC hx) (k _ _ _ h)
theorem someS {α : Type} {o : Option α} (h : o.isSome = true) : ∃ x, o = some x := Option.isSome_iff_exists.mp h
theorem noneS {α : Type} {o : Option α} (h : o.isNone = true) : o = none := Option.isNone_iff_eq_none.mp h
@[elab_as_elim] theorem chz_none {P : Expr → Prop}  (h : chk nm sc .none ast = true) (k : ∀ k p, (true) = true → P (.Constant .none k p)) : P ast := let ⟨_, hx⟩ := someS h; atE (iNone hx) (k _ _ rfl)
@[elab_as_elim] theorem chz_var {P : Expr → Prop} {i} (h : chk nm sc (.var i) ast = true) (k : ∀ x p, (isVar nm sc i x) = true → P (.Name x p)) : P ast := let ⟨_, hx, h⟩ := anyS h; atE (iName hx) (k _ _ h)
@[elab_as_elim] theorem chz_glob {P : Expr → Prop} {i} (h : chk nm sc (.glob i) ast = true) (k : ∀ x p, (isGlob sc x && gints.lookup x == some i) = true → P (.Name x p)) : P ast := let ⟨_, hx, h⟩ := anyS h; atE (iName hx) (k _ _ h)
@[elab_as_elim] theorem chz_bin {P : Expr → Prop} {o a b} (h : chk nm sc (.bin o a b) ast = true) (k : ∀ l op r p, (opIs o op && chk nm sc a l && chk nm sc b r) = true → P (.BinOp l op r p)) : P ast := let ⟨_, hx, h⟩ := anyS h; atE (iBin hx) (k _ _ _ _ h)
@[elab_as_elim] theorem chz_neg {P : Expr → Prop} {a} (h : chk nm sc (.neg a) ast = true) (k : ∀ x p, (chk nm sc a x) = true → P (.UnaryOp .USub x p)) : P ast := by
  obtain ⟨x, hx, h⟩ := anyS h
  obtain ⟨h1, h⟩ := andS h
  have := iUn hx
  rw [beq_iff_eq.mp h1] at this
  exact atE this (k _ _ h)
@[elab_as_elim] theorem chz_not {P : Expr → Prop} {a} (h : chk nm sc (.not a) ast = true) (k : ∀ x p, (chk nm sc a x) = true → P (.UnaryOp .Not x p)) : P ast := by
  obtain ⟨x, hx, h⟩ := anyS h
  obtain ⟨h1, h⟩ := andS h
  have := iUn hx
  rw [beq_iff_eq.mp h1] at this
  exact atE this (k _ _ h)
@[elab_as_elim] theorem chz_chain {P : Expr → Prop} {a c} (h : chk nm sc (.chain a c) ast = true) (k : ∀ l ops rs p, (chk nm sc a l && chkc nm sc c ops rs) = true → P (.Compare l ops rs p)) : P ast := let ⟨_, hx, h⟩ := anyS h; atE (iCmp hx) (k _ _ _ _ h)
@[elab_as_elim] theorem chz_isNone {P : Expr → Prop} {a} (h : chk nm sc (.isNone a) ast = true) (k : ∀ l k q p, (chk nm sc a l) = true → P (.Compare l [.Is] [.Constant .none k q] p)) : P ast := by
  obtain ⟨x, hx, h⟩ := anyS h
  obtain ⟨o, ho, h⟩ := anyS h
  obtain ⟨y, hy, h⟩ := anyS h
  obtain ⟨h1, h⟩ := andS h
  obtain ⟨h2, h3⟩ := andS h1
  obtain ⟨z, hz⟩ := someS h3
  have := iCmp hx
  rw [oneS ho, oneS hy, beq_iff_eq.mp h2, iNone hz] at this
  exact atE this (k _ _ _ _ h)
@[elab_as_elim] theorem chz_isin {P : Expr → Prop} {n a b} (h : chk nm sc (.isin n a b) ast = true) (k : ∀ l op es k q p, ((op == if n then .NotIn else .In) && chk nm sc a l && chks nm sc b es) = true → P (.Compare l [op] [.Tuple es k q] p)) : P ast := by
  obtain ⟨x, hx, h⟩ := anyS h
  obtain ⟨o, ho, h⟩ := anyS h
  obtain ⟨y, hy, h⟩ := anyS h
  obtain ⟨t, ht, h⟩ := anyS h
  have := iCmp hx
  rw [oneS ho, oneS hy, iTup ht] at this
  exact atE this (k _ _ _ _ _ _ h)
@[elab_as_elim] theorem chz_inl {P : Expr → Prop} {a b} (h : chk nm sc (.inl a b) ast = true) (k : ∀ l x y q p, (chk nm sc a l && chk nm sc b (.Subscript x y q)) = true → P (.Compare l [.In] [.Subscript x y q] p)) : P ast := by
  obtain ⟨x, hx, h⟩ := anyS h
  obtain ⟨o, ho, h⟩ := anyS h
  obtain ⟨y, hy, h⟩ := anyS h
  obtain ⟨h1, h⟩ := andS h
  obtain ⟨h2, h3⟩ := andS h1
  obtain ⟨z, hz⟩ := someS h3
  have := iCmp hx
  rw [oneS ho, oneS hy, beq_iff_eq.mp h2, iSub hz] at this
  rw [iSub hz] at h
  exact atE this (k _ _ _ _ _ h)
@[elab_as_elim] theorem chz_and {P : Expr → Prop} {es} (h : chk nm sc (.and es) ast = true) (k : ∀ vs p, (chks nm sc es vs && !isEmptyL vs) = true → P (.BoolOp .And vs p)) : P ast := by
  obtain ⟨x, hx, h⟩ := anyS h
  obtain ⟨h1, h⟩ := andS h
  have := iBo hx
  rw [beq_iff_eq.mp h1] at this
  exact atE this (k _ _ h)
@[elab_as_elim] theorem chz_or {P : Expr → Prop} {es} (h : chk nm sc (.or es) ast = true) (k : ∀ vs p, (chks nm sc es vs && !isEmptyL vs) = true → P (.BoolOp .Or vs p)) : P ast := by
  obtain ⟨x, hx, h⟩ := anyS h
  obtain ⟨h1, h⟩ := andS h
  have := iBo hx
  rw [beq_iff_eq.mp h1] at this
  exact atE this (k _ _ h)
@[elab_as_elim] theorem chz_ite {P : Expr → Prop} {c a b} (h : chk nm sc (.ite c a b) ast = true) (k : ∀ t x y p, (chk nm sc c t && chk nm sc a x && chk nm sc b y) = true → P (.IfExp t x y p)) : P ast := let ⟨_, hx, h⟩ := anyS h; atE (iIf hx) (k _ _ _ _ h)
@[elab_as_elim] theorem chz_call {P : Expr → Prop} {f as} (h : chk nm sc (.call f as) ast = true) (k : ∀ x q xs p, (isGlob sc x && gfuns.lookup f == some x && chks nm sc as xs && decide (xs.length < 20)) = true → P (.Call (.Name x q) xs [] p)) : P ast := by
  obtain ⟨x, hx, h⟩ := anyS h
  obtain ⟨y, hy, h⟩ := anyS h
  obtain ⟨h1, h⟩ := andS h
  have := iCall hx
  rw [iName hy, emptyS h1] at this
  exact atE this (k _ _ _ _ h)
@[elab_as_elim] theorem chz_meth {P : Expr → Prop} {o m as} (h : chk nm sc (.meth o m as) ast = true) (k : ∀ ob x q xs p, (chk nm sc o ob && plainBase ob && methNames[m]? == some x && chks nm sc as xs && decide (xs.length < 20) && q.endLine == p.line) = true → P (.Call (.Attribute ob x q) xs [] p)) : P ast := by
  obtain ⟨x, hx, h⟩ := anyS h
  obtain ⟨y, hy, h⟩ := anyS h
  obtain ⟨h1, h⟩ := andS h
  have := iCall hx
  rw [iAttr hy, emptyS h1] at this
  exact atE this (k _ _ _ _ _ h)
@[elab_as_elim] theorem chz_attr {P : Expr → Prop} {o a} (h : chk nm sc (.attr o a) ast = true) (k : ∀ ob x q, (chk nm sc o ob && plainBase ob && attrNames[a]? == some x) = true → P (.Attribute ob x q)) : P ast := let ⟨_, hx, h⟩ := anyS h; atE (iAttr hx) (k _ _ _ h)
@[elab_as_elim] theorem chz_prices {P : Expr → Prop}  (h : chk nm sc .prices ast = true) (k : ∀ x p y q, (isGlob sc x && x == ("PriceRows" : Str) && y == ("rows" : Str)) = true → P (.Attribute (.Name x p) y q)) : P ast := by
  obtain ⟨x, hx, h⟩ := anyS h
  obtain ⟨y, hy, h⟩ := anyS h
  have := iAttr hx
  rw [iName hy] at this
  exact atE this (k _ _ _ _ h)
@[elab_as_elim] theorem chz_upto {P : Expr → Prop} {a b} (h : chk nm sc (.upto a b) ast = true) (k : ∀ v h q p, (chk nm sc a v && chk nm sc b h) = true → P (.Subscript v (.Slice none (some h) none q) p)) : P ast := by
  obtain ⟨x, hx, h⟩ := anyS h
  obtain ⟨y, hy, h⟩ := anyS h
  obtain ⟨z, hz, h⟩ := anyS h
  obtain ⟨h1, h⟩ := andS h
  obtain ⟨h2, h3⟩ := andS h1
  have := iSub hx
  rw [iSlice hy, hz, noneS h2, noneS h3] at this
  exact atE this (k _ _ _ _ h)
@[elab_as_elim] theorem chz_from {P : Expr → Prop} {a b} (h : chk nm sc (.from a b) ast = true) (k : ∀ v h q p, (chk nm sc a v && chk nm sc b h) = true → P (.Subscript v (.Slice (some h) none none q) p)) : P ast := by
  obtain ⟨x, hx, h⟩ := anyS h
  obtain ⟨y, hy, h⟩ := anyS h
  obtain ⟨z, hz, h⟩ := anyS h
  obtain ⟨h1, h⟩ := andS h
  obtain ⟨h2, h3⟩ := andS h1
  have := iSub hx
  rw [iSlice hy, hz, noneS h2, noneS h3] at this
  exact atE this (k _ _ _ _ h)
theorem chk_rev {a} (h : chk nm sc (.rev a) ast = true) : ∃ v i k r' r q p, ast = .Subscript v (.Slice none none (some (.UnaryOp .USub (.Constant (.int i) k r') r)) q) p ∧ (chk nm sc a v && i == 1) = true := by
  refine Classical.byContradiction fun hG => ?_
  obtain ⟨x, hx, h⟩ := anyS h
  obtain ⟨y, hy, h⟩ := anyS h
  obtain ⟨z, hz, h⟩ := anyS h
  obtain ⟨u, hu, h⟩ := anyS h
  obtain ⟨i, hi, h⟩ := anyS h
  obtain ⟨h1, h⟩ := andS h
  obtain ⟨h1, h4⟩ := andS h1
  obtain ⟨h2, h3⟩ := andS h1
  have := iSub hx
  rw [iSlice hy, hz, noneS h2, noneS h3, iUn hu, iInt hi, beq_iff_eq.mp h4] at this
  exact hG ⟨_, _, _, _, _, _, _, this, h⟩
theorem chk_every {a} {n : Nat} (h : chk nm sc (.every a n) ast = true) : ∃ v i k r' q p, ast = .Subscript v (.Slice none none (some (.Constant (.int i) k r')) q) p ∧ (chk nm sc a v && i == (n : Int) && decide (0 < n)) = true := by
  refine Classical.byContradiction fun hG => ?_
  obtain ⟨x, hx, h⟩ := anyS h
  obtain ⟨y, hy, h⟩ := anyS h
  obtain ⟨z, hz, h⟩ := anyS h
  obtain ⟨i, hi, h⟩ := anyS h
  obtain ⟨h1, h⟩ := andS h
  obtain ⟨h2, h3⟩ := andS h1
  have := iSub hx
  rw [iSlice hy, hz, noneS h2, noneS h3, iInt hi] at this
  exact hG ⟨_, _, _, _, _, _, this, h⟩
@[elab_as_elim] theorem chz_list {P : Expr → Prop} {es} (h : chk nm sc (.list es) ast = true) (k : ∀ xs p, (chks nm sc es xs) = true → P (.List xs p)) : P ast := let ⟨_, hx, h⟩ := anyS h; atE (iList hx) (k _ _ h)
@[elab_as_elim] theorem chz_max2 {P : Expr → Prop} {a b} (h : chk nm sc (.max2 a b) ast = true) (k : ∀ x q y z p, (isGlob sc x && x == ("max" : Str) && chk nm sc a y && chk nm sc b z) = true → P (.Call (.Name x q) [y, z] [] p)) : P ast := by
  obtain ⟨x, hx, h⟩ := anyS h
  obtain ⟨n, hn, h⟩ := anyS h
  obtain ⟨y, hy, h⟩ := anyS h
  obtain ⟨h1, h⟩ := andS h
  have := iCall hx
  rw [iName hn, twoS hy, emptyS h1] at this
  exact atE this (k _ _ _ _ _ h)
@[elab_as_elim] theorem chz_barr0 {P : Expr → Prop}  (h : chk nm sc .barr0 ast = true) (k : ∀ x q p, (isGlob sc x && x == ("bytearray" : Str)) = true → P (.Call (.Name x q) [] [] p)) : P ast := by
  obtain ⟨x, hx, h⟩ := anyS h
  obtain ⟨n, hn, h⟩ := anyS h
  obtain ⟨h1, h⟩ := andS h
  obtain ⟨h1, h2⟩ := andS h1
  have := iCall hx
  rw [iName hn, emptyS h1, emptyS h2] at this
  exact atE this (k _ _ _ h)
@[elab_as_elim] theorem chz_bitlen {P : Expr → Prop} {a} (h : chk nm sc (.b1 .bitlen a) ast = true) (k : ∀ ob x q p, (chk nm sc a ob && plainBase ob && x == ("bit_length" : Str) && q.endLine == p.line) = true → P (.Call (.Attribute ob x q) [] [] p)) : P ast := by
  obtain ⟨x, hx, h⟩ := anyS h
  obtain ⟨n, hn, h⟩ := anyS h
  obtain ⟨h1, h⟩ := andS h
  obtain ⟨h1, h2⟩ := andS h1
  have := iCall hx
  rw [iAttr hn, emptyS h1, emptyS h2] at this
  exact atE this (k _ _ _ _ h)
@[elab_as_elim] theorem chz_range {P : Expr → Prop} {a} (h : chki nm sc (.range a) ast = true) (k : ∀ x q y p, (isGlob sc x && x == ("range" : Str) && chk nm sc a y) = true → P (.Call (.Name x q) [y] [] p)) : P ast := by
  obtain ⟨x, hx, h⟩ := anyS h
  obtain ⟨n, hn, h⟩ := anyS h
  obtain ⟨y, hy, h⟩ := anyS h
  obtain ⟨h1, h⟩ := andS h
  have := iCall hx
  rw [iName hn, oneS hy, emptyS h1] at this
  exact atE this (k _ _ _ _ h)
@[elab_as_elim] theorem chz_range3 {P : Expr → Prop} {a b c} (h : chki nm sc (.range3 a b c) ast = true) (k : ∀ x q y z u p, (isGlob sc x && x == ("range" : Str) && chk nm sc a y && chk nm sc b z && chk nm sc c u) = true → P (.Call (.Name x q) [y, z, u] [] p)) : P ast := by
  obtain ⟨x, hx, h⟩ := anyS h
  obtain ⟨n, hn, h⟩ := anyS h
  obtain ⟨y, hy, h⟩ := anyS h
  obtain ⟨z, hz, h⟩ := anyS h
  obtain ⟨h1, h⟩ := andS h
  have := iCall hx
  rw [iName hn, unS hy, twoS hz, emptyS h1] at this
  exact atE this (k _ _ _ _ _ _ h)
@[elab_as_elim] theorem chz_b1' {P : Expr → Prop} {f : B1} {a} (h : ((vCall ast).any fun x => (vName x.1).any fun n => (one x.2.1).any fun y => isEmptyL x.2.2.1 && (isGlob sc n.1 && n.1 == b1Name f && chk nm sc a y)) = true) (k : ∀ x q y p, (isGlob sc x && x == b1Name f && chk nm sc a y) = true → P (.Call (.Name x q) [y] [] p)) : P ast := by
  obtain ⟨x, hx, h⟩ := anyS h
  obtain ⟨n, hn, h⟩ := anyS h
  obtain ⟨y, hy, h⟩ := anyS h
  obtain ⟨h1, h⟩ := andS h
  have := iCall hx
  rw [iName hn, oneS hy, emptyS h1] at this
  exact atE this (k _ _ _ _ h)
@[elab_as_elim] theorem chz_b1_len {P : Expr → Prop} {a} (h : chk nm sc (.b1 .len a) ast = true) (k : ∀ x q y p, (isGlob sc x && x == b1Name .len && chk nm sc a y) = true → P (.Call (.Name x q) [y] [] p)) : P ast := chz_b1' h k
@[elab_as_elim] theorem chz_b1_abs {P : Expr → Prop} {a} (h : chk nm sc (.b1 .abs a) ast = true) (k : ∀ x q y p, (isGlob sc x && x == b1Name .abs && chk nm sc a y) = true → P (.Call (.Name x q) [y] [] p)) : P ast := chz_b1' h k
@[elab_as_elim] theorem chz_b1_sorted {P : Expr → Prop} {a} (h : chk nm sc (.b1 .sorted a) ast = true) (k : ∀ x q y p, (isGlob sc x && x == b1Name .sorted && chk nm sc a y) = true → P (.Call (.Name x q) [y] [] p)) : P ast := chz_b1' h k
@[elab_as_elim] theorem chz_b1_sum {P : Expr → Prop} {a} (h : chk nm sc (.b1 .sum a) ast = true) (k : ∀ x q y p, (isGlob sc x && x == b1Name .sum && chk nm sc a y) = true → P (.Call (.Name x q) [y] [] p)) : P ast := chz_b1' h k
@[elab_as_elim] theorem chz_b1_int {P : Expr → Prop} {a} (h : chk nm sc (.b1 .int a) ast = true) (k : ∀ x q y p, (isGlob sc x && x == b1Name .int && chk nm sc a y) = true → P (.Call (.Name x q) [y] [] p)) : P ast := chz_b1' h k
@[elab_as_elim] theorem chz_b1_bytes {P : Expr → Prop} {a} (h : chk nm sc (.b1 .bytes a) ast = true) (k : ∀ x q y p, (isGlob sc x && x == b1Name .bytes && chk nm sc a y) = true → P (.Call (.Name x q) [y] [] p)) : P ast := chz_b1' h k
@[elab_as_elim] theorem chz_b1_max {P : Expr → Prop} {a} (h : chk nm sc (.b1 .max a) ast = true) (k : ∀ x q y p, (isGlob sc x && x == b1Name .max && chk nm sc a y) = true → P (.Call (.Name x q) [y] [] p)) : P ast := chz_b1' h k
@[elab_as_elim] theorem chz_isint {P : Expr → Prop} {a} (h : chk nm sc (.b1 .isint a) ast = true) (k : ∀ x q y z r p, (isGlob sc x && x == ("isinstance" : Str) && isGlob sc z && z == ("int" : Str) && chk nm sc a y) = true → P (.Call (.Name x q) [y, .Name z r] [] p)) : P ast := by
  obtain ⟨x, hx, h⟩ := anyS h
  obtain ⟨n, hn, h⟩ := anyS h
  obtain ⟨y, hy, h⟩ := anyS h
  obtain ⟨z, hz, h⟩ := anyS h
  obtain ⟨h1, h⟩ := andS h
  have := iCall hx
  rw [iName hn, twoS hy, iName hz, emptyS h1] at this
  exact atE this (k _ _ _ _ _ _ h)
theorem chk_sub {a b} (h : chk nm sc (.sub a b) ast = true) : ∃ v s p, ast = .Subscript v s p ∧ (∀ lo hi st q, s ≠ .Slice lo hi st q) ∧ (chk nm sc a v && chk nm sc b s) = true := by
  refine Classical.byContradiction fun hG => ?_
  obtain ⟨x, hx, h⟩ := anyS h
  obtain ⟨h1, h⟩ := andS h
  exact hG ⟨_, _, _, iSub hx, fun lo hi st q e => by rw [e] at h1; exact absurd h1 Bool.false_ne_true, h⟩
theorem chk_elems {e} (h : chki nm sc (.elems e) ast = true) : (∀ env x, foldedSetIterable ast env x = pure x) ∧ chk nm sc e ast = true := ⟨fun env x => set_at' (andS h).1 env x, (andS h).2⟩
@[elab_as_elim] theorem chz_comp {P : Expr → Prop} {elt j cap it} (h : chk nm sc (.comp elt j cap it) ast = true) (k : ∀ x y q iter scope p, (chki nm sc it iter && chk nm (seenIn sc scope) elt x && nm[j]? == some y && scope.kind == .function && scope.names.lookup y == some .local && !cap.contains j && !(y == ("__debug__" : Str)) && !(y == (".0" : Str)) &&
    cap.all (fun i => match nm[i]? with
      | some z => sc.names.lookup z == some .cell && scope.names.lookup z == some .free && !(z == ("__debug__" : Str))
      | none => false) &&
    scope.names.all (fun n => (n.2 == .local && (n.1 == y || n.1 == (".0" : Str))) || (n.2 == .free && sc.names.lookup n.1 == some .cell) || n.2 == .globalImplicit) && decide (scope.names.map (·.1)).Nodup) = true → P (.ListComp x [⟨.Name y q, iter, [], 0⟩] scope p)) : P ast := by
  obtain ⟨x, hx, h⟩ := anyS h
  obtain ⟨g, hg, h⟩ := anyS h
  obtain ⟨t, ht, h⟩ := anyS h
  obtain ⟨h1, h⟩ := andS h
  obtain ⟨h1, h2⟩ := andS h1
  obtain ⟨tg, iter, ifs, asy⟩ := g
  have := iLC hx
  rw [oneS hg, show tg = _ from iName ht, show ifs = [] from emptyS h1, show asy = 0 from of_decide_eq_true h2] at this
  exact atE this (k _ _ _ _ _ _ h)
theorem chk_comp {elt j cap it} (h : chk nm sc (.comp elt j cap it) ast = true) : ∃ x y q iter scope p, ast = .ListComp x [⟨.Name y q, iter, [], 0⟩] scope p ∧ (chki nm sc it iter && chk nm (seenIn sc scope) elt x && nm[j]? == some y && scope.kind == .function && scope.names.lookup y == some .local && !cap.contains j && !(y == ("__debug__" : Str)) && !(y == (".0" : Str)) &&
    cap.all (fun i => match nm[i]? with
      | some z => sc.names.lookup z == some .cell && scope.names.lookup z == some .free && !(z == ("__debug__" : Str))
      | none => false) &&
    scope.names.all (fun n => (n.2 == .local && (n.1 == y || n.1 == (".0" : Str))) || (n.2 == .free && sc.names.lookup n.1 == some .cell) || n.2 == .globalImplicit) && decide (scope.names.map (·.1)).Nodup) = true := chz_comp (P := fun a => ∃ x y q iter scope p, a = .ListComp x [⟨.Name y q, iter, [], 0⟩] scope p ∧ (chki nm sc it iter && chk nm (seenIn sc scope) elt x && nm[j]? == some y && scope.kind == .function && scope.names.lookup y == some .local && !cap.contains j && !(y == ("__debug__" : Str)) && !(y == (".0" : Str)) &&
    cap.all (fun i => match nm[i]? with
      | some z => sc.names.lookup z == some .cell && scope.names.lookup z == some .free && !(z == ("__debug__" : Str))
      | none => false) &&
    scope.names.all (fun n => (n.2 == .local && (n.1 == y || n.1 == (".0" : Str))) || (n.2 == .free && sc.names.lookup n.1 == some .cell) || n.2 == .globalImplicit) && decide (scope.names.map (·.1)).Nodup) = true) h fun x y q iter scope p h => ⟨_, _, _, _, _, _, rfl, h⟩
theorem chks_nil {xs} (h : chks nm sc .nil xs = true) : xs = [] := emptyS h
theorem chks_cons {e r xs} (h : chks nm sc (.cons e r) xs = true) : ∃ x ys, xs = x :: ys ∧ (∀ env, starEach (x :: ys) env = (false, eval x env) :: starEach ys env) ∧ (chk nm sc e x && chks nm sc r ys) = true := by
  refine Classical.byContradiction fun hG => ?_
  obtain ⟨x, hx, h⟩ := anyS h
  exact hG ⟨_, _, unS hx, fun env => star_at (andS h).1 _ env, (andS h).2⟩
theorem chkc_one {o e ops xs} (h : chkc nm sc (.one o e) ops xs = true) : ∃ op x, ops = [op] ∧ xs = [x] ∧ (coIs o op && chk nm sc e x) = true := by
  refine Classical.byContradiction fun hG => ?_
  obtain ⟨x, hx, h⟩ := anyS h
  obtain ⟨y, hy, h⟩ := anyS h
  exact hG ⟨_, _, oneS hx, oneS hy, h⟩
theorem chkc_more {o e r ops xs} (h : chkc nm sc (.more o e r) ops xs = true) : ∃ op ops' x xs', ops = op :: ops' ∧ xs = x :: xs' ∧ (coIs o op && chk nm sc e x && chkc nm sc r ops' xs' && !isEmptyL ops' && !isEmptyL xs') = true := by
  refine Classical.byContradiction fun hG => ?_
  obtain ⟨x, hx, h⟩ := anyS h
  obtain ⟨y, hy, h⟩ := anyS h
  exact hG ⟨_, _, _, _, unS hx, unS hy, h⟩
/-! statements -/
variable {st : Stmt}
theorem slots_cons {i is xs} (h : slotsOf nm sc (i :: is) xs = true) : ∃ x p ys, xs = .Name x p :: ys ∧ (isVar nm sc i x && slotsOf nm sc is ys) = true := by
  refine Classical.byContradiction fun hG0 => ?_
  obtain ⟨y, hy, h⟩ := anyS h
  obtain ⟨x, hx, h⟩ := anyS h
  refine hG0 ?_
  have := unS hy
  rw [iName hx] at this
  exact ⟨_, _, _, this, h⟩
@[elab_as_elim] theorem chzS_asg {P : Stmt → Prop} {i e} (h : chkS nm sc (.asg i e) st = true) (k : ∀ x p v q, (isVar nm sc i x && chk nm sc e v && noSwap sc x p v) = true → P (.Assign [.Name x p] v q)) : P st := by
  refine Classical.byContradiction fun hG1 => ?_
  obtain ⟨x, hx, h⟩ := anyS h
  obtain ⟨t, ht, h⟩ := anyS h
  obtain ⟨n, hn, h⟩ := anyS h
  refine hG1 ?_
  have := iAsg hx
  rw [oneS ht, iName hn] at this
  exact atE this (k _ _ _ _ h)
@[elab_as_elim] theorem chzS_asgComp {P : Stmt → Prop} {i e} (h : chkS nm sc (.asgComp i e) st = true) (k : ∀ x p v q, (isVar nm sc i x && chk nm sc e v && doSwap sc x p v) = true → P (.Assign [.Name x p] v q)) : P st := by
  refine Classical.byContradiction fun hG2 => ?_
  obtain ⟨x, hx, h⟩ := anyS h
  obtain ⟨t, ht, h⟩ := anyS h
  obtain ⟨n, hn, h⟩ := anyS h
  refine hG2 ?_
  have := iAsg hx
  rw [oneS ht, iName hn] at this
  exact atE this (k _ _ _ _ h)
theorem chkS_asgs {is es} (h : chkS nm sc (.asgs is es) st = true) : ∃ ts k p xs k' q r, st = .Assign [.Tuple ts k p] (.Tuple xs k' q) r ∧ (slotsOf nm sc is ts && chks nm sc es xs && decide is.Nodup && decide (is.length = xs.length) && constOk xs) = true := by
  refine Classical.byContradiction fun hG => ?_
  obtain ⟨x, hx, h⟩ := anyS h
  obtain ⟨t, ht, h⟩ := anyS h
  obtain ⟨n, hn, h⟩ := anyS h
  obtain ⟨m, hm, h⟩ := anyS h
  have := iAsg hx
  rw [oneS ht, iTup hn, iTup hm] at this
  exact hG ⟨_, _, _, _, _, _, _, this, h⟩
@[elab_as_elim] theorem chzS_asgIf {P : Stmt → Prop} {is c a b} (h : chkS nm sc (.asgIf is c a b) st = true) (k : ∀ ts k p tst xs k1 p1 ys k2 p2 q r, (slotsOf nm sc is ts && chk nm sc c tst && chks nm sc a xs && chks nm sc b ys && decide is.Nodup && decide (is.length = xs.length) && decide (is.length = ys.length) && decide (is.length ≤ 100)) = true → P (.Assign [.Tuple ts k p] (.IfExp tst (.Tuple xs k1 p1) (.Tuple ys k2 p2) q) r)) : P st := by
  obtain ⟨x, hx, h⟩ := anyS h
  obtain ⟨t, ht, h⟩ := anyS h
  obtain ⟨n, hn, h⟩ := anyS h
  obtain ⟨u, hu, h⟩ := anyS h
  obtain ⟨y, hy, h⟩ := anyS h
  obtain ⟨z, hz, h⟩ := anyS h
  have := iAsg hx
  rw [oneS ht, iTup hn, iIf hu, iTup hy, iTup hz] at this
  exact atE this (k _ _ _ _ _ _ _ _ _ _ _ _ h)
@[elab_as_elim] theorem chzS_setItem {P : Stmt → Prop} {o i v} (h : chkS nm sc (.setItem o i v) st = true) (k : ∀ ob ix p val q, (noSlice ix && noComp val && chk nm sc o ob && chk nm sc i ix && chk nm sc v val) = true → P (.Assign [.Subscript ob ix p] val q)) : P st := by
  obtain ⟨x, hx, h⟩ := anyS h
  obtain ⟨t, ht, h⟩ := anyS h
  obtain ⟨n, hn, h⟩ := anyS h
  have := iAsg hx
  rw [oneS ht, iSub hn] at this
  exact atE this (k _ _ _ _ _ h)
@[elab_as_elim] theorem chzS_setAttr {P : Stmt → Prop} {o a v} (h : chkS nm sc (.setAttr o a v) st = true) (k : ∀ ob name p val q, (noComp val && chk nm sc o ob && attrNames[a]? == some name && chk nm sc v val) = true → P (.Assign [.Attribute ob name p] val q)) : P st := by
  obtain ⟨x, hx, h⟩ := anyS h
  obtain ⟨t, ht, h⟩ := anyS h
  obtain ⟨n, hn, h⟩ := anyS h
  have := iAsg hx
  rw [oneS ht, iAttr hn] at this
  exact atE this (k _ _ _ _ _ h)
@[elab_as_elim] theorem chzS_aug {P : Stmt → Prop} {i o e} (h : chkS nm sc (.aug i o e) st = true) (k : ∀ x p op val q, (isVar nm sc i x && opIs o op && chk nm sc e val && augOp o) = true → P (.AugAssign (.Name x p) op val q)) : P st := by
  obtain ⟨x, hx, h⟩ := anyS h
  obtain ⟨n, hn, h⟩ := anyS h
  have := iAug hx
  rw [iName hn] at this
  exact atE this (k _ _ _ _ _ h)
@[elab_as_elim] theorem chzS_augAttr {P : Stmt → Prop} {ob a o e} (h : chkS nm sc (.augAttr ob a o e) st = true) (k : ∀ x name p op val q, (chk nm sc ob x && attrNames[a]? == some name && opIs o op && chk nm sc e val && augOp o) = true → P (.AugAssign (.Attribute x name p) op val q)) : P st := by
  obtain ⟨x, hx, h⟩ := anyS h
  obtain ⟨n, hn, h⟩ := anyS h
  have := iAug hx
  rw [iAttr hn] at this
  exact atE this (k _ _ _ _ _ _ h)
@[elab_as_elim] theorem chzS_iff {P : Stmt → Prop} {c a b} (h : chkS nm sc (.iff c a b) st = true) (k : ∀ t x y q, (chk nm sc c t && chkSs nm sc a x && chkSs nm sc b y) = true → P (.If t x y q)) : P st := let ⟨_, hx, h⟩ := anyS h; atE (iIfS hx) (k _ _ _ _ h)
@[elab_as_elim] theorem chzS_for {P : Stmt → Prop} {i it body} (h : chkS nm sc (.for_ i it body) st = true) (k : ∀ x p iter bd q, (isVar nm sc i x && chki nm sc it iter && chkSs nm sc body bd) = true → P (.For (.Name x p) iter bd [] q)) : P st := by
  obtain ⟨x, hx, h⟩ := anyS h
  obtain ⟨n, hn, h⟩ := anyS h
  obtain ⟨h1, h⟩ := andS h
  have := iFor hx
  rw [iName hn, emptyS h1] at this
  exact atE this (k _ _ _ _ _ h)
@[elab_as_elim] theorem chzS_forEnum {P : Stmt → Prop} {i j e body} (h : chkS nm sc (.forEnum i j e body) st = true) (k : ∀ x px y py k p z pz v pc bd q, (isVar nm sc i x && isVar nm sc j y && decide (i ≠ j) && isGlob sc z && z == ("enumerate" : Str) && chk nm sc e v && chkSs nm sc body bd) = true → P (.For (.Tuple [.Name x px, .Name y py] k p) (.Call (.Name z pz) [v] [] pc) bd [] q)) : P st := by
  obtain ⟨x, hx, h⟩ := anyS h
  obtain ⟨t, ht, h⟩ := anyS h
  obtain ⟨w, hw, h⟩ := anyS h
  obtain ⟨n, hn, h⟩ := anyS h
  obtain ⟨m, hm, h⟩ := anyS h
  obtain ⟨u, hu, h⟩ := anyS h
  obtain ⟨z, hz, h⟩ := anyS h
  obtain ⟨v, hv, h⟩ := anyS h
  obtain ⟨h1, h⟩ := andS h
  obtain ⟨h1, h2⟩ := andS h1
  have := iFor hx
  rw [iTup ht, twoS hw, iName hn, iName hm, iCall hu, iName hz, oneS hv, emptyS h1, emptyS h2] at this
  exact atE this (k _ _ _ _ _ _ _ _ _ _ _ _ h)
@[elab_as_elim] theorem chzS_ret {P : Stmt → Prop} {e} (h : chkS nm sc (.ret e) st = true) (k : ∀ v q, chk nm sc e v = true → P (.Return (some v) q)) : P st := by
  obtain ⟨x, hx, h⟩ := anyS h
  obtain ⟨v, hv, h⟩ := anyS h
  have := iRet hx
  rw [hv] at this
  exact atE this (k _ _ h)
@[elab_as_elim] theorem chzS_append {P : Stmt → Prop} {ob v} (h : chkS nm sc (.append ob v) st = true) (k : ∀ x name apos y pos q, (chk nm sc ob x && plainBase x && name == ("append" : Str) && chk nm sc v y && apos.endLine == pos.line) = true → P (.Expr (.Call (.Attribute x name apos) [y] [] pos) q)) : P st := by
  obtain ⟨x, hx, h⟩ := anyS h
  obtain ⟨u, hu, h⟩ := anyS h
  obtain ⟨w, hw, h⟩ := anyS h
  obtain ⟨y, hy, h⟩ := anyS h
  obtain ⟨h1, h⟩ := andS h
  have := iExp hx
  rw [iCall hu, iAttr hw, oneS hy, emptyS h1] at this
  exact atE this (k _ _ _ _ _ _ h)
@[elab_as_elim] theorem chzS_extend {P : Stmt → Prop} {ob v} (h : chkS nm sc (.extend ob v) st = true) (k : ∀ x name apos y pos q, (chk nm sc ob x && plainBase x && name == ("extend" : Str) && chk nm sc v y && apos.endLine == pos.line) = true → P (.Expr (.Call (.Attribute x name apos) [y] [] pos) q)) : P st := by
  obtain ⟨x, hx, h⟩ := anyS h
  obtain ⟨u, hu, h⟩ := anyS h
  obtain ⟨w, hw, h⟩ := anyS h
  obtain ⟨y, hy, h⟩ := anyS h
  obtain ⟨h1, h⟩ := andS h
  have := iExp hx
  rw [iCall hu, iAttr hw, oneS hy, emptyS h1] at this
  exact atE this (k _ _ _ _ _ _ h)
@[elab_as_elim] theorem chzS_exp {P : Stmt → Prop} {e} (h : chkS nm sc (.exp e) st = true) (k : ∀ v q, (chk nm sc e v && isCall v) = true → P (.Expr v q)) : P st := let ⟨_, hx, h⟩ := anyS h; atE (iExp hx) (k _ _ h)
theorem chkSs_nil {xs} (h : chkSs nm sc .nil xs = true) : xs = [] := emptyS h
theorem chkSs_cons {s r xs} (h : chkSs nm sc (.cons s r) xs = true) : ∃ x ys, xs = x :: ys ∧ (chkS nm sc s x && chkSs nm sc r ys) = true := by
  refine Classical.byContradiction fun hG => ?_
  obtain ⟨x, hx, h⟩ := anyS h
  exact hG ⟨_, _, unS hx, h⟩
end
end Tk

namespace Tk
open PySem PySem.W PyProof.Rows PySem.Calls
/-! eliminations: they keep the goal out of the cases -/
theorem bindE {α β γ : Type} {x : Option (α × β)} {f : α × β → Option γ} {r : γ} {P : Prop} (h : x.bind f = some r) (k : ∀ a b, x = some (a, b) → f (a, b) = some r → P) : P := by
  obtain ⟨⟨a, b⟩, h1, h2⟩ := Option.bind_eq_some_iff.mp h
  exact k a b h1 h2
theorem bindE1 {α γ : Type} {x : Option α} {f : α → Option γ} {r : γ} {P : Prop} (h : x.bind f = some r) (k : ∀ a, x = some a → f a = some r → P) : P := by
  obtain ⟨a, h1, h2⟩ := Option.bind_eq_some_iff.mp h
  exact k a h1 h2
theorem mapE {α β γ : Type} {x : Option (α × β)} {f : α × β → γ} {r : γ} {P : Prop} (h : x.map f = some r) (k : ∀ a b, x = some (a, b) → f (a, b) = r → P) : P := by
  obtain ⟨⟨a, b⟩, h1, h2⟩ := Option.map_eq_some_iff.mp h
  exact k a b h1 h2
theorem mapE1 {α γ : Type} {x : Option α} {f : α → γ} {r : γ} {P : Prop} (h : x.map f = some r) (k : ∀ a, x = some a → f a = r → P) : P := by
  obtain ⟨a, h1, h2⟩ := Option.map_eq_some_iff.mp h
  exact k a h1 h2
theorem B4 {a b c d : Bool} {P : Prop} (h : (a && b && c && d) = true) (k : a = true → b = true → c = true → d = true → P) : P := by
  simp only [Bool.and_eq_true] at h
  exact k h.1.1.1 h.1.1.2 h.1.2 h.2
theorem B5 {a b c d e : Bool} {P : Prop} (h : (a && b && c && d && e) = true) (k : a = true → b = true → c = true → d = true → e = true → P) : P := by
  simp only [Bool.and_eq_true] at h
  exact k h.1.1.1.1 h.1.1.1.2 h.1.1.2 h.1.2 h.2
theorem B11 {a b c d e f g i j k l : Bool} {P : Prop} (h : (a && b && c && d && e && f && g && i && j && k && l) = true) (k : a = true → b = true → c = true → d = true → e = true → f = true → g = true → i = true → j = true → k = true → l = true → P) : P := by
  simp only [Bool.and_eq_true] at h
  exact k h.1.1.1.1.1.1.1.1.1.1 h.1.1.1.1.1.1.1.1.1.2 h.1.1.1.1.1.1.1.1.2 h.1.1.1.1.1.1.1.2 h.1.1.1.1.1.1.2 h.1.1.1.1.1.2 h.1.1.1.1.2 h.1.1.1.2 h.1.1.2 h.1.2 h.2
theorem bindInt {γ : Type} {x : Option (AV × St)} {f : AV × St → Option γ} {r : γ} {P : Prop} (h : x.bind f = some r) (hb : ∀ b σ, f (.bool b, σ) = none) (hn : ∀ σ, f (.none, σ) = none) (hy : ∀ l σ, f (.bytes l, σ) = none) (hl : ∀ n σ, f (.lab n, σ) = none) (hs : ∀ σ, f (.script, σ) = none) (hp : ∀ σ, f (.prices, σ) = none)
    (k : ∀ i σ, x = some (.int i, σ) → f (.int i, σ) = some r → P) : P := by
  obtain ⟨⟨a, b⟩, h1, h2⟩ := Option.bind_eq_some_iff.mp h
  cases a with
  | int c => exact k c b h1 h2
  | bool c => rw [hb] at h2; cases h2
  | none => rw [hn] at h2; cases h2
  | bytes l => rw [hy] at h2; cases h2
  | lab n => rw [hl] at h2; cases h2
  | script => rw [hs] at h2; cases h2
  | prices => rw [hp] at h2; cases h2
theorem bindLab {γ : Type} {x : Option (AV × St)} {f : AV × St → Option γ} {r : γ} {P : Prop} (h : x.bind f = some r) (hb : ∀ b σ, f (.bool b, σ) = none) (hn : ∀ σ, f (.none, σ) = none) (hy : ∀ l σ, f (.bytes l, σ) = none) (hl : ∀ n σ, f (.int n, σ) = none) (hs : ∀ σ, f (.script, σ) = none) (hp : ∀ σ, f (.prices, σ) = none)
    (k : ∀ i σ, x = some (.lab i, σ) → f (.lab i, σ) = some r → P) : P := by
  obtain ⟨⟨a, b⟩, h1, h2⟩ := Option.bind_eq_some_iff.mp h
  cases a with
  | int c => rw [hl] at h2; cases h2
  | bool c => rw [hb] at h2; cases h2
  | none => rw [hn] at h2; cases h2
  | bytes l => rw [hy] at h2; cases h2
  | lab n => exact k n b h1 h2
  | script => rw [hs] at h2; cases h2
  | prices => rw [hp] at h2; cases h2
theorem bindBool {γ : Type} {x : Option (AV × St)} {f : AV × St → Option γ} {r : γ} {P : Prop} (h : x.bind f = some r) (hb : ∀ b σ, f (.int b, σ) = none) (hn : ∀ σ, f (.none, σ) = none) (hy : ∀ l σ, f (.bytes l, σ) = none) (hl : ∀ n σ, f (.lab n, σ) = none) (hs : ∀ σ, f (.script, σ) = none) (hp : ∀ σ, f (.prices, σ) = none)
    (k : ∀ i σ, x = some (.bool i, σ) → f (.bool i, σ) = some r → P) : P := by
  obtain ⟨⟨a, b⟩, h1, h2⟩ := Option.bind_eq_some_iff.mp h
  cases a with
  | int c => rw [hb] at h2; cases h2
  | bool c => exact k c b h1 h2
  | none => rw [hn] at h2; cases h2
  | bytes l => rw [hy] at h2; cases h2
  | lab n => rw [hl] at h2; cases h2
  | script => rw [hs] at h2; cases h2
  | prices => rw [hp] at h2; cases h2
section
variable {B : Bs} {A : Around} {σ σ' : St} {ρ : List Addr} {s : Shared} {v x y : AV} {X Y : Value}

theorem Rel.list_at (R : Rel B ρ σ s) {n : Nat} {a : Addr} {l : List Int} (h1 : ρ[n]? = some a) (h2 : σ[n]? = some (.list l)) : ∃ vs ep, IsL s.heap a vs.toArray ep ∧ IntsAre vs l := R.obj n a _ h1 h2
theorem IntsAre.flat {vs : List Value} {ns : List Int} (h : IntsAre vs ns) : ∀ k : Nat, IntsAre (List.replicate k vs).flatten (List.replicate k ns).flatten
  | 0 => .nil
  | k + 1 => by rw [List.replicate_succ, List.replicate_succ, List.flatten_cons, List.flatten_cons]; exact h.append (IntsAre.flat h k)
theorem fold_arr (vs : List Value) : ∀ (k : Nat) (acc : List Value), List.foldl (fun x1 x2 => x1 ++ x2) acc.toArray (List.replicate k vs.toArray) = (acc ++ (List.replicate k vs).flatten).toArray
  | 0, acc => by simp
  | k + 1, acc => by
    rw [List.replicate_succ, List.foldl_cons, List.append_toArray, fold_arr vs k, List.replicate_succ, List.flatten_cons, List.append_assoc]
theorem intMulOk {a b : Int} (h : a.natAbs < 2 ^ 64 ∨ b.natAbs < 2 ^ 64) : IntMulOk a b :=
  h.elim (fun h => .of_left (intBits_le h)) fun h => .of_right (intBits_le h)
theorem intBin_ok {o : Op} {op : Operator} {a b c : Int} {t u : Tok} (K : B.Ok) (hr : Room A 0) (ho : opIs o op = true) (e : intBin o a b = some c) (R : Rel B ρ σ s) :
    WpA B A (binaryOp op (.int a t) (.int b u)) (PV B ρ s σ (.int c)) s := by
  have fin : ∀ c' k, c' = c → PV B ρ s σ (.int c) (.int c' k) { s with toks := s.toks + 1 } := fun c' k q => (PV.now R (v := .int c) ⟨k, by rw [q]⟩).tok
  cases o <;> cases op <;> first | (exact absurd ho Bool.false_ne_true) | skip
  · cases e; exact add_int (fin _ _ rfl)
  · cases e; exact sub_int (fin _ _ rfl)
  · simp only [intBin] at e
    split at e
    · cases e; exact mul_int (fin _ _ rfl) (intMulOk ‹_›)
    · first | exact nn e | cases e
  · simp only [intBin] at e
    split at e
    · rename_i q
      cases e; exact floordiv_int q.1 (fin _ _ rfl) (.inl (PyProof.noPylong_small (by (first | lia | omega))))
    · first | exact nn e | cases e
  · simp only [intBin] at e
    split at e
    · first | exact nn e | cases e
    · cases e; exact mod_int' ‹_› (fin _ _ rfl)
  · simp only [intBin] at e
    split at e
    · rename_i q
      cases e; exact lshift_int_small q.1 (by (first | lia | omega)) q.2.2 (fin _ _ rfl)
    · first | exact nn e | cases e
  · simp only [intBin] at e
    split at e
    · rename_i q
      cases e; exact rshift_int q (fin _ _ rfl)
    · first | exact nn e | cases e
  · cases e; exact and_int (fin _ _ rfl)
  · cases e; exact or_int (fin _ _ rfl)
  · simp only [intBin] at e
    split at e
    · rename_i q
      cases e
      exact pow_int_small q.1 (by (first | lia | omega)) q.2.2 (fin _ _ rfl)
    · first | exact nn e | cases e

theorem newL_some {σ σ' : St} {l : List Int} {v : AV} (e : newL σ l = some (v, σ')) : l.length ≤ lineOf ∧ v = .lab σ.length ∧ σ' = σ ++ [.list l] := by
  unfold newL at e
  split at e
  · cases e; exact ⟨‹_›, rfl, rfl⟩
  · first | exact nn e | cases e
theorem lineOf_size {n : Nat} (h : n ≤ lineOf) : n ≤ sizeLine := Nat.le_trans h (by decide)
theorem bytesInts_eq {b c : Array UInt8} (l : List Int) (h : bytesInts b = l) : b.toList = l.map fun i => i.toNat.toUInt8 := by
  subst h
  unfold bytesInts
  rw [List.map_map]
  conv => lhs; rw [← List.map_id b.toList]
  refine List.map_congr_left fun u _ => ?_
  simp
theorem bytesInts_inj {b c : Array UInt8} (h : bytesInts b = bytesInts c) : b = c := by
  have h1 := bytesInts_eq (c := c) _ h
  have h2 := bytesInts_eq (c := c) (b := c) _ rfl
  exact Array.toList_inj.mp (h1.trans h2.symm)
theorem bytesInts_beq (b c : Array UInt8) : (b.toList == c.toList) = (bytesInts b == bytesInts c) := by
  by_cases e : b = c
  · subst e; simp
  · have h1 : (b.toList == c.toList) = false := by
      rw [beq_eq_false_iff_ne]; exact fun q => e (Array.toList_inj.mp q)
    have h2 : (bytesInts b == bytesInts c) = false := by
      rw [beq_eq_false_iff_ne]; exact fun q => e (bytesInts_inj q)
    rw [h1, h2]
theorem bytesInts_flat (b : List UInt8) (k : Nat) : bytesInts ((List.replicate k b).flatten).toArray = (List.replicate k (bytesInts b.toArray)).flatten := by
  unfold bytesInts
  induction k with
  | zero => rfl
  | succ k ih => simp only [List.replicate_succ, List.flatten_cons, List.map_append] at ih ⊢; rw [ih]

theorem binv_ok {o : Op} {op : Operator} (K : B.Ok) (hr : Room A 0) (ho : opIs o op = true) (e : binv o x y σ = some (v, σ')) (R : Rel B ρ σ s) (hx : VM B ρ x X) (hy : VM B ρ y Y) :
    WpA B A (binaryOp op X Y) (PV B ρ s σ' v) s := by
  have none : ∀ {q : Option (AV × St)}, q = Option.none → q ≠ some (v, σ') := fun h => by rw [h]; exact nofun
  cases x <;> cases y <;> first | (exact absurd e (none rfl)) | (cases o <;> exact absurd e (none rfl)) | skip
  · obtain ⟨t, rfl⟩ := hx
    obtain ⟨u, rfl⟩ := hy
    obtain ⟨c, e1, q⟩ := Option.map_eq_some_iff.mp e
    cases q
    exact intBin_ok K hr ho e1 R
  · rename_i l k
    cases o <;> first | (exact absurd e (none rfl)) | skip
    delta binv at e; dsimp only at e
    split at e
    · rename_i g
      cases e
      obtain ⟨b, t, rfl, hb⟩ := hx
      obtain ⟨u, rfl⟩ := hy
      cases op <;> first | (exact absurd ho Bool.false_ne_true) | skip
      obtain ⟨bl⟩ := b
      have hlen : l.length = bl.length := by rw [← hb]; simp [bytesInts]
      refine bytes_mul_any (b := bl) ?_ ?_ ?_ ?_ fun t' k' => ?_
      · intro q; subst q; exact g.1 (by rw [← hb]; rfl)
      · (first | lia | omega)
      · (first | lia | omega)
      · (first | lia | omega)
      · exact (PV.now R (v := .bytes _) ⟨_, _, rfl, by rw [bytesInts_flat, hb]⟩).tok
    · first | exact nn e | cases e
  · rename_i m k
    cases o <;> first | (exact absurd e (none rfl)) | skip
    delta binv at e; dsimp only at e
    split at e
    · rename_i xs h1
      split at e
      · rename_i g
        obtain ⟨hl, rfl, rfl⟩ := newL_some e
        obtain ⟨a, ha, rfl⟩ := hx
        obtain ⟨t, rfl⟩ := hy
        obtain ⟨vs, ep, ia, ja⟩ := R.list_at ha h1
        cases op <;> first | (exact absurd ho Bool.false_ne_true) | skip
        have hz : vs.length * k.toNat ≤ 1000000 := by
          rw [ja.length]
          exact Nat.le_trans (Nat.mul_le_mul g.1 (by (first | lia | omega) : k.toNat ≤ 1000)) (by decide)
        refine wpAny_binaryOp_repeat_ref (T := "list") (U := "int") (by decide) ⟨_, ia, rfl⟩ (fun s' => typeIs_int s' k t) noFill_list_mul F.fills_int_mul F.slot_int_rmul repeat_list F.slot_int_index.lookup
          (call_meets F.slot_int_rmul (typeIs_int s k t) F.entry_int_rmul (F.args_int_rmul_2 _ _) (int___rmul___int_list k t a vs.toArray ep)
            ⟨ia, rfl, ⟨_, ia, rfl⟩, call_meets F.slot_list_mul ⟨_, ia, rfl⟩ F.entry_list_mul (F.args_list_mul_2 _ _)
              (AutoListH.list___mul___list_int_3 a vs.toArray ep k t (by simp [Builtin.List.listFitsIndex]; (first | lia | omega)) (by rw [List.size_toArray]; (first | lia | omega)) (by rw [List.size_toArray]; simp [Builtin.List.listTooLong, sizeLine]; (first | lia | omega)))
              ⟨ia, ?_⟩⟩)
        refine PV.newList (vs := (List.replicate k.toNat vs).flatten) (ep := 0) R (fun b o e => Heap.get?_push_of_some _ e) rfl rfl (get_size _) ?_ (IntsAre.flat ja _)
        refine (Heap.get?_push_size _ rfl).trans ?_
        by_cases hv : vs = []
        · subst hv; simp
        · have hn : vs.toArray.isEmpty = false := by cases vs <;> simp_all
          rw [hn]
          have := fold_arr vs k.toNat []
          simp only [List.nil_append] at this
          simp only [Bool.false_eq_true, if_false]
          rw [show (#[] : Array Value) = ([] : List Value).toArray from rfl, this]
      · first | exact nn e | cases e
    · first | exact nn e | cases e
  · rename_i m n
    cases o <;> first | (exact absurd e (none rfl)) | skip
    delta binv at e; dsimp only at e
    split at e
    · rename_i xs ys h1 h2
      obtain ⟨hl, rfl, rfl⟩ := newL_some e
      obtain ⟨a, ha, rfl⟩ := hx
      obtain ⟨b, hb, rfl⟩ := hy
      obtain ⟨vs, ep, ia, ja⟩ := R.list_at ha h1
      obtain ⟨ws, eq, ib, jb⟩ := R.list_at hb h2
      cases op <;> first | (exact absurd ho Bool.false_ne_true) | skip
      refine P.add_list ia ib ?_ ?_
      · refine PV.newList (vs := vs ++ ws) (ep := 0) R (fun b o e => Heap.get?_push_of_some _ e) rfl rfl (get_size _) ?_ (ja.append jb)
        rw [List.append_toArray]
        exact Heap.get?_push_size _ rfl
      · rw [List.length_append, ← ja.length, ← jb.length] at hl
        simpa using lineOf_size hl
    · first | exact nn e | cases e
end
end Tk

namespace Tk
open PySem PySem.W PyProof.Rows PySem.Calls
section
variable {B : Bs} {A : Around} {σ σ' : St} {ρ : List Addr} {s : Shared} {v x y : AV} {X Y : Value}

theorem eqCmp_ok {o : Co} {op : CmpOp} {a b : Addr} {xs ys : List Int} {vs ws : List Value} {ep eq : Nat} {c : Bool} {Q : Value → Shared → Prop} (hr : Room A 0) (ho : coIs o op = true) (e : eqCmp o xs ys = some c)
    (ia : IsL s.heap a vs.toArray ep) (ja : IntsAre vs xs) (ib : IsL s.heap b ws.toArray eq) (jb : IntsAre ws ys) (h : Q (.bool c) s) : WpA B A (compareOp op (.ref a) (.ref b)) Q s := by
  have hu : A.units + 64 < cLine := by have := hr.units; (first | lia | omega)
  cases o <;> cases op <;> first | (exact absurd ho Bool.false_ne_true) | (exact nn e) | skip
  · first | exact nn e | cases e
    refine ke_eq_ints ia.isList ib.isList ja jb hu ?_
    rw [show decide (xs = ys) = (xs == ys) from (Bool.beq_eq_decide_eq _ _).symm]; exact h
  · first | exact nn e | cases e
    refine ke_ne_ints ia.isList ib.isList ja jb hu ?_
    rw [show (!decide (xs = ys)) = (xs != ys) from by rw [bne, Bool.beq_eq_decide_eq]]; exact h
theorem cmpv_ok {o : Co} {op : CmpOp} {c : Bool} (hr : Room A 0) (ho : coIs o op = true) (e : cmpv o x y σ = some c) (R : Rel B ρ σ s) (hx : VM B ρ x X) (hy : VM B ρ y Y) {Q : Value → Shared → Prop} (h : Q (.bool c) s) :
    WpA B A (compareOp op X Y) Q s := by
  unfold cmpv at e
  split at e
  · obtain ⟨t, rfl⟩ := hx
    obtain ⟨u, rfl⟩ := hy
    cases e
    cases o <;> cases op <;> first | (exact absurd ho Bool.false_ne_true) | skip
    · exact eq_int h
    · exact ne_int h
    · exact lt_int h
    · exact le_int h
    · exact gt_int h
    · exact ge_int h
  · obtain ⟨b1, t, rfl, h1⟩ := hx
    obtain ⟨b2, u, rfl, h2⟩ := hy
    subst h1 h2
    cases o <;> cases op <;> first | (exact absurd ho Bool.false_ne_true) | (exact nn e) | skip
    · obtain rfl := Option.some.inj e; exact eq_bytes (by rw [bytesInts_beq]; exact h)
    · obtain rfl := Option.some.inj e; exact ne_bytes (by rw [bne, bytesInts_beq]; exact h)
  · split at e
    · rename_i m n xs ys h1 h2
      obtain ⟨a, ha, rfl⟩ := hx
      obtain ⟨b, hb, rfl⟩ := hy
      obtain ⟨vs, ep, ia, ja⟩ := R.list_at ha h1
      obtain ⟨ws, eq, ib, jb⟩ := R.list_at hb h2
      exact eqCmp_ok hr ho e ia ja ib jb h
    · first | exact nn e | cases e
  · first | exact nn e | cases e

theorem contains_any (l : List Int) (k : Int) : l.any (· == k) = l.contains k := by
  induction l with
  | nil => rfl
  | cons a r ih => simp only [List.any_cons, List.contains_cons, ih]; rw [show (a == k) = (k == a) from BEq.comm]
theorem inl_ok {i : Int} {t : Tok} {n : Nat} {a : Addr} {l : List Int} (R : Rel B ρ σ s) (ha : ρ[n]? = some a) (hl : σ[n]? = some (.list l)) {Q : Value → Shared → Prop} (h : Q (.bool (l.contains i)) s) :
    WpA B A (compareOp .In (.int i t) (.ref a)) Q s := by
  refine Classical.byContradiction fun hG0 => ?_
  obtain ⟨vs, ep, ia, ja⟩ := R.list_at ha hl
  refine hG0 ?_
  exact in_list_ints ia.isList ja (by rw [contains_any]; exact h)
theorem VMs.ints {vs : List AV} {l : List Int} {Vs : List Value} (h : VMs B ρ vs Vs) (e : intsOf vs = some l) : IntsAre Vs l := by
  induction h generalizing l with
  | nil => cases e; exact .nil
  | @cons v V r R hv hr ih =>
    cases v <;> first | (exact nn e) | skip
    simp only [intsOf] at e
    refine mapE1 e fun l' e1 hq0 => ?_
    obtain rfl := hq0
    obtain ⟨t, rfl⟩ := hv
    exact .cons _ t (ih e1)

theorem spliced_ints (idx : List Nat) {vs : List Value} {ns : List Int} (h : IntsAre vs ns) : IntsAre (idx.filterMap (vs[·]?)) (idx.filterMap (ns[·]?)) := by
  induction idx with
  | nil => exact .nil
  | cons i r ih =>
    cases hn : ns[i]? with
    | none =>
      have hv : vs[i]? = none := by rw [List.getElem?_eq_none_iff] at hn ⊢; rw [h.length]; exact hn
      rw [List.filterMap_cons, List.filterMap_cons, hn, hv]; exact ih
    | some n =>
      obtain ⟨t, hv⟩ := h.get i n hn
      rw [List.filterMap_cons, List.filterMap_cons, hn, hv]
      exact .cons n t ih
theorem IntsAre.rev : ∀ {vs : List Value} {ns : List Int}, IntsAre vs ns → IntsAre vs.reverse ns.reverse
  | _, _, .nil => .nil
  | _, _, .cons n t r => by rw [List.reverse_cons, List.reverse_cons]; exact (IntsAre.rev r).append (.cons n t .nil)
theorem pick_every {vs : List Value} {ns : List Int} (h : IntsAre vs ns) {k : Nat} (hk : 0 < k) : IntsAre (slicePick vs.toArray none none (some (k : Int))).toList (everyL k ns) := by
  have hn : vs.toArray.size = ns.length := by rw [List.size_toArray, h.length]
  unfold slicePick
  have hb : sliceBounds none none (some (k : Int)) vs.toArray.size = (0, (ns.length : Int), (k : Int)) := by
    unfold sliceBounds
    simp only [Option.getD_some]
    rw [if_pos (by (first | lia | omega)), if_pos (by (first | lia | omega)), hn]
  rw [hb]
  have hr : sliceRange 0 (ns.length : Int) (k : Int) = (List.range ((ns.length + k - 1) / k)).map fun i => k * i := by
    unfold sliceRange
    rw [if_pos (by (first | lia | omega))]
    have : (if (0 : Int) < (ns.length : Int) then ((ns.length : Int) - 0 + (k : Int) - 1) / (k : Int) else 0).toNat = (ns.length + k - 1) / k := by
      split
      · rename_i q
        have : ((ns.length : Int) - 0 + (k : Int) - 1) = ((ns.length + k - 1 : Nat) : Int) := by (first | lia | omega)
        rw [this, ← Int.natCast_ediv, Int.toNat_natCast]
      · rename_i q
        have : ns.length = 0 := by (first | lia | omega)
        rw [this]
        rw [Int.toNat_zero, Nat.div_eq_of_lt (by (first | lia | omega))]
    dsimp only
    rw [this]
    refine List.map_congr_left fun i _ => ?_
    rw [Int.zero_add, ← Int.natCast_mul, Int.toNat_natCast]
  rw [hr]
  have e1 : (List.filterMap (fun x => vs.toArray[x]?) ((List.range ((ns.length + k - 1) / k)).map fun i => k * i)).toArray.toList = ((List.range ((ns.length + k - 1) / k)).map fun i => k * i).filterMap (vs[·]?) := by simp
  have e2 : everyL k ns = ((List.range ((ns.length + k - 1) / k)).map fun i => k * i).filterMap (ns[·]?) := by
    unfold everyL; rw [List.filterMap_map]; rfl
  rw [e2]
  show IntsAre (List.filterMap (fun x => vs.toArray[x]?) ((List.range ((ns.length + k - 1) / k)).map fun i => k * i)).toArray.toList _
  rw [e1]
  exact spliced_ints _ h
theorem pick_rev {vs : List Value} {ns : List Int} (h : IntsAre vs ns) : IntsAre (slicePick vs.toArray none none (some (-1))).toList ns.reverse := by
  rw [krv_pick]; exact IntsAre.rev h

/-- where a list stands: a label's, or the script -/
theorem listOf_at {xs : List Int} (K : B.Ok) (R : Rel B ρ σ s) (hx : VM B ρ x X) (e : listOf B.ns x σ = some xs) : ∃ a vs, X = .ref a ∧ s.heap.IsList a vs.toArray ∧ IntsAre vs xs := by
  unfold listOf at e
  split at e
  · split at e
    · rename_i h1
      cases e
      refine Classical.byContradiction fun hG0 => ?_
      obtain ⟨a, ha, rfl⟩ := hx
      obtain ⟨vs, ep, ia, ja⟩ := R.list_at ha h1
      refine hG0 ?_
      exact ⟨a, vs, rfl, ia.isList, ja⟩
    · first | exact nn e | cases e
  · first | exact nn e | cases e
    obtain ⟨o, ho, r⟩ := K.list
    exact ⟨B.l, B.vs, hx, ⟨o, R.keep _ _ ho, r⟩, K.iare⟩
  · first | exact nn e | cases e
/-- a slice of a list -/
theorem slice_ok {a sl : Addr} {vs : List Value} {xs : List Int} {vl vu vt : Value} {lo hi st : Option Int} (R : Rel B ρ σ s) (hl : s.heap.IsList a vs.toArray) (hi' : IntsAre vs xs)
    (hs : s.heap.IsSliceOf sl vl vu vt) (pl : IsPart vl lo) (pu : IsPart vu hi) (pt : IsPart vt st) (h0 : st ≠ some 0) {zs : List Int} (hz : IntsAre (slicePick vs.toArray lo hi st).toList zs)
    (e1 : xs.length ≤ lineOf) (e2 : zs.length ≤ lineOf) : WpA B A (getItem (.ref a) (.ref sl)) (PV B ρ s (σ ++ [.list zs]) (.lab σ.length)) s := by
  refine wpAny_getItem_list_slice hl hs pl pu pt h0 ?_ (by rw [List.size_toArray, hi'.length]; exact lineOf_size e1)
  exact PV.newList (vs := (slicePick vs.toArray lo hi st).toList) (ep := 0) R (fun b o e => Heap.get?_push_of_some _ e) rfl rfl (get_size _) (Heap.get?_push_size _ rfl) hz
end
end Tk

namespace Tk
open PySem PySem.W PyProof.Rows PySem.Calls

/-- a code that may hold a bytearray behind the machine's back -/
noncomputable def holders : List String := ["bytearray.__contains__", "bytearray.__mod__", "bytearray.__rmod__", "_struct.pack_into.held", "bytearray.find.held"] ++ Builtin.Bytes.decodersThatHold
noncomputable def decoder : Code → Bool
  | .builtin id _ => holders.contains id
  | _ => false
noncomputable def Cln (l : List (Code × Pos)) : Prop := ∀ x ∈ l, decoder x.1 = false
/-- wp over all contexts in A; with cl, over those that bear no decoder -/
noncomputable def Wp {α : Type} (cl : Bool) (B : Bs) (A : Around) (t : Sem α) (Q : α → Shared → Prop) (s : Shared) : Prop :=
  ∀ (Γ : Ctx) (p : Pos), Γ.In A → (cl = true → decoder Γ.code = false ∧ Cln Γ.below) → Sem.wp (model pw B.w) Γ t (fun a _ s' => Q a s') (fun _ _ _ => False) p s
noncomputable def Cd (cl : Bool) (B : Bs) (A : Around) (c : Code) (R : Result → Shared → Prop) (s : Shared) : Prop :=
  ∀ (Γ : Ctx) (p : Pos), Γ.code = c → Γ.Below A → (cl = true → Cln Γ.below) → wpCode (model pw B.w) Γ R p s
/-- a result that is a value -/
noncomputable abbrev Ret (Q : Value → Shared → Prop) : Result → Shared → Prop := fun r s' => match r with | .ok (.ret V) => Q V s' | _ => False
section
variable {α β : Type} {cl : Bool} {B : Bs} {A : Around} {s : Shared}

theorem leaf {t : Sem α} {Q : α → Shared → Prop} (h : WpA B A t Q s) : Wp cl B A t Q s := fun Γ p hΓ _ => h Γ p hΓ
theorem cdLeaf {c : Code} {R : Result → Shared → Prop} (h : codeAny (model pw B.w) A c R s) : Cd cl B A c R s := fun Γ p hc hΓ _ => h Γ p hc hΓ
theorem Wp.mono {t : Sem α} {P Q : α → Shared → Prop} (h : Wp cl B A t P s) (k : ∀ a s', P a s' → Q a s') : Wp cl B A t Q s :=
  fun Γ p hΓ hc => Sem.wp_mono _ _ _ (fun a _ s' q => k a s' q) (fun _ _ _ x => x) p s (h Γ p hΓ hc)
theorem Cd.mono {c : Code} {R R' : Result → Shared → Prop} (h : Cd cl B A c R s) (k : ∀ r s', R r s' → R' r s') : Cd cl B A c R' s := fun Γ p hc hΓ hl => wpCode_mono k (h Γ p hc hΓ hl)
theorem wpAny_bind {m : Sem α} {f : α → Sem β} {Q : β → Shared → Prop} (h : Wp cl B A m (fun a s' => Wp cl B A (f a) Q s') s) : Wp cl B A (m >>= f) Q s := fun Γ p hΓ hc => by
  rw [Sem.wp_bind']
  exact Sem.wp_mono _ _ _ (fun a p' s' h' => h' Γ p' hΓ hc) (fun _ _ _ x => x) p s (h Γ p hΓ hc)
theorem wpAny_pure {a : α} {Q : α → Shared → Prop} (h : Q a s) : Wp cl B A (pure a) Q s := fun _ _ _ _ => h
theorem wpAny_of_eq {t : Sem α} {a : α} {Q : α → Shared → Prop} (e : t = pure a) (h : Q a s) : Wp cl B A t Q s := by rw [e]; exact wpAny_pure h
theorem wpAny_holding {vs : List Value} {m : Sem α} {Q : α → Shared → Prop} (h : Wp cl B A m Q s) : Wp cl B A (holding vs m) Q s := fun Γ p hΓ hc => by rw [Sem.wp_holding]; exact h Γ p hΓ hc
theorem wpAny_keep {vs : List Value} {m : Sem α} {Q : α → Shared → Prop} (h : Wp cl B A m Q s) : Wp cl B A (m.keep vs) Q s := fun Γ p hΓ hc => by rw [Sem.wp_keep]; exact h Γ p hΓ hc
theorem wpAny_standAt {pos : Pos} {Q : Unit → Shared → Prop} (h : Q () s) : Wp cl B A (standAt pos) Q s := fun _ _ _ _ => h
theorem wpAny_rule {tag : String} {Q : Unit → Shared → Prop} (h : Q () s) : Wp cl B A (rule tag) Q s := fun _ _ _ _ => h
theorem wpAny_point {Q : Unit → Shared → Prop} (h : Q () s) : Wp cl B A point Q s := fun _ _ _ _ => h
theorem wpAny_onRaise {m : Sem α} {k : Value → Sem Unit} {Q : α → Shared → Prop} (h : Wp cl B A m Q s) : Wp cl B A (m.onRaise k) Q s := fun Γ p hΓ hc => by
  rw [Sem.wp_onRaise]
  exact Sem.wp_mono _ _ _ (fun _ _ _ x => x) (fun _ _ _ x => x.elim) p s (h Γ p hΓ hc)
theorem wpAny_attempt {m : Sem α} {Q : Except Value α → Shared → Prop} (h : Wp cl B A m (fun a => Q (.ok a)) s) : Wp cl B A m.attempt Q s := fun Γ p hΓ hc => by
  rw [Sem.wp_attempt]
  exact Sem.wp_mono _ _ _ (fun _ _ _ x => x) (fun _ _ _ x => x.elim) p s (h Γ p hΓ hc)
theorem wpAny_truthy_bool {b : Bool} {Q : Bool → Shared → Prop} (h : Q b s) : Wp cl B A (truthy (.bool b)) Q s := fun _ _ _ _ => h
theorem wpAny_release {vs keep : List Value} {Q : Unit → Shared → Prop} (h : Q () s) : Wp cl B A (release vs keep) Q s := fun Γ p _ _ => by rw [Sem.wp_release]; exact h
theorem wpAny_operating {vs : List Value} {m : Sem Value} {Q : Value → Shared → Prop} (h : Wp cl B A m Q s) : Wp cl B A (operate vs m) Q s := fun Γ p hΓ hc => by rw [Sem.wp_operate]; exact h Γ p hΓ hc
theorem wpAny_bindName {env : Env} {x : Str} {v : Value} {Q : Unit → Shared → Prop} (h : Wp cl B A (storeName env x v) Q s) : Wp cl B A (bindName env x v) Q s := fun Γ p hΓ hc => by rw [Sem.wp_bindName]; exact h Γ p hΓ hc
theorem wpAny_assign_Name {env : Env} {x : Str} {pos : Pos} {v : Value} {Q : Unit → Shared → Prop} (h : Wp cl B A (storeName env x v) Q s) : Wp cl B A (assign (.Name x pos) env v) Q s := by
  rw [arm_assign_Name]; exact wpAny_bind (wpAny_standAt (wpAny_bindName h))
theorem wpAny_letTemporaryGo {base : Expr} {o r : Value} {Q : Unit → Shared → Prop} (h : Q () s) : Wp cl B A (letTemporaryGo base o r) Q s := leaf (PySem.wpAny_letTemporaryGo h)

/-! codes -/
theorem enter_cln {Γ : Ctx} {c : Code} {h : Option Value} {p : Pos} (k : cl = true → decoder Γ.code = false ∧ Cln Γ.below) : cl = true → Cln (Γ.enter c h p).below := fun q x hx => by
  rcases List.mem_cons.mp hx with rfl | hx
  · exact (k q).1
  · exact (k q).2 x hx
theorem wpAny_run {c : Code} {Q : Flow → Shared → Prop} (hc : Cd cl B A c (fun r s' => match r with | .ok f => Q f s' | .error _ => False) s) : Wp cl B A (run c) Q s :=
  fun Γ p hΓ k => by rw [Sem.wp_run]; exact hc _ p rfl (hΓ.enter c none p (by intro x; cases x)) (enter_cln k)
theorem wpAny_runValue {c : Code} {Q : Value → Shared → Prop} (hc : Cd cl B A c (Ret Q) s) : Wp cl B A (runValue c) Q s := fun Γ p hΓ k => by
  rw [Sem.wp_runValue]
  refine wpCode_mono (fun r s' h' => ?_) (hc _ p rfl (hΓ.enter c none p (by intro x; cases x)) (enter_cln k))
  rcases r with e | (_ | _ | _ | _) <;> first | exact h' | exact h'.elim
theorem wpAny_call {f : Value} {pos : List Value} {Q : Value → Shared → Prop} (hc : Cd cl B A (.call f ⟨pos, []⟩) (Ret Q) s) : Wp cl B A (call f pos) Q s := wpAny_runValue hc
theorem codeAny_of_tree {c : Code} {R : Result → Shared → Prop} (hd : decoder c = false)
    (h : Wp cl B (A.under c) ((model pw B.w).den c) (fun fin s' => match fin with | .done f => R (.ok f) s' | .again c' => c'.quiet = true ∧ Cd cl B A c' R s') s) : Cd cl B A c R s := fun Γ p hc hΓ k => by
  rw [wpCode_iff_wp, hc]
  refine Sem.wp_mono _ _ _ (fun fin p' s' h' => ?_) (fun _ _ _ h' => h'.elim) p s (h Γ p (hc ▸ hΓ.in) (fun q => ⟨by rw [hc]; exact hd, k q⟩))
  cases fin with
  | done f => exact h'
  | again c' => exact ⟨h'.1, h'.2 (Γ.goto c') p' rfl (hΓ.goto c') k⟩
theorem codeAny_loop' {c : Code} {R : Result → Shared → Prop} (hd : decoder c = false) (hq : c.quiet = true) (I : Nat → Shared → Prop)
    (turn : ∀ n s, I n s → Wp cl B (A.under c) ((model pw B.w).den c)
      (fun fin s' => match fin with
        | .done f => R (.ok f) s'
        | .again c' => (c' = c ∧ ∃ m, m < n ∧ I m s') ∨ (c'.quiet = true ∧ Cd cl B A c' R s')) s)
    (n : Nat) (h : I n s) : Cd cl B A c R s := by
  induction n using Nat.strongRecOn generalizing s with
  | ind n ih =>
    refine codeAny_of_tree hd ((turn n s h).mono fun fin s' hf => ?_)
    cases fin with
    | done f => exact hf
    | again c' =>
      rcases hf with ⟨rfl, m, hm, hI⟩ | hf
      · exact ⟨hq, ih m hm hI⟩
      · exact hf
theorem codeAny_block {stmts : List Stmt} {env : Env} {R : Result → Shared → Prop} (h : Wp cl B A (execs stmts env) (fun f s' => R (.ok f) s') s) : Cd cl B A (.block stmts env) R s := by
  refine codeAny_of_tree rfl ?_
  show Wp cl B _ (do return Fin.done (← (execs stmts env).onRaise (fun x => do noteFrame x env; theTreesLotGoes x))) _ s
  exact wpAny_bind (wpAny_onRaise (h.mono fun f s' h' => wpAny_pure h'))
theorem codeAny_forLoop_any {R : Result → Shared → Prop} {target : Expr} {it : Value} {body orelse : List Stmt} {env : Env} (I : Nat → Shared → Prop)
    (turn : ∀ n s, I n s → Wp cl B A (pyNext it) (fun r s₁ => match r with
      | none => Wp cl B A (execs orelse env) (fun f s₃ => R (.ok f) s₃) s₁
      | some v => Wp cl B A (letOwnedTupleGo target it v) (fun _ s₁' => Wp cl B A (assign target env v) (fun _ s₂ => Wp cl B A (execs body env) (fun f s₃ => match f with
            | .next | .cont => ∃ m, m < n ∧ I m s₃
            | .brk => R (.ok .next) s₃
            | .ret v => R (.ok (.ret v)) s₃) s₂) s₁') s₁) s)
    (n : Nat) (h : I n s) : Cd cl B A (.forLoop target it body orelse env) R s := by
  refine codeAny_loop' rfl rfl I (fun n s hI => ?_) n h
  show Wp cl B A ((forTurn target it body orelse env).onRaise (fun x => do noteFrame x env; theTreesLotGoes x)) _ s
  refine wpAny_onRaise ?_
  simp only [forTurn]
  refine wpAny_bind (wpAny_standAt (wpAny_bind (wpAny_onRaise ((turn n s hI).mono fun r s₁ h₁ => ?_))))
  cases r with
  | none => exact wpAny_pure (.inr ⟨rfl, codeAny_block h₁⟩)
  | some v =>
    refine wpAny_bind (h₁.mono fun _ s₁' h₁' => ?_)
    refine wpAny_bind (h₁'.mono fun _ s₂ h₂ => wpAny_bind (h₂.mono fun f s₃ h₃ => ?_))
    cases f with
    | next => exact wpAny_pure (.inl ⟨rfl, h₃⟩)
    | cont => exact wpAny_pure (.inl ⟨rfl, h₃⟩)
    | brk => exact wpAny_pure h₃
    | ret v => exact wpAny_pure h₃
end
end Tk

namespace Tk
open PySem PySem.W PyProof.Rows PySem.Calls
section
variable {α β : Type} {cl : Bool} {B : Bs} {A : Around} {s : Shared} {env : Env}

/-! expressions -/
theorem wpAny_BinOp {l op r pos} {Q : Value → Shared → Prop} (h : Wp cl B A (eval l env) (fun a s₁ => Wp cl B A (eval r env) (fun b s₂ => Wp cl B A (binaryOp op a b) Q s₂) s₁) s) : Wp cl B A (eval (.BinOp l op r pos) env) Q s := by
  rw [arm_eval_BinOp]
  exact wpAny_bind (h.mono fun a s₁ h₁ => wpAny_bind (wpAny_holding (h₁.mono fun b s₂ h₂ => wpAny_bind (wpAny_standAt (wpAny_operating h₂)))))
theorem wpAny_Compare1 {l op r pos} {Q : Value → Shared → Prop} (h : Wp cl B A (eval l env) (fun a s₁ => Wp cl B A (eval r env) (fun b s₂ => Wp cl B A (compareOp op a b) Q s₂) s₁) s) (hm : behindInMarks op r = false) :
    Wp cl B A (eval (.Compare l [op] [r] pos) env) Q s := by
  rw [eval_Compare1, markedBehindIn_of_false hm]
  exact wpAny_bind (h.mono fun a s₁ h₁ => wpAny_bind (wpAny_holding (h₁.mono fun b s₂ h₂ => wpAny_bind (wpAny_standAt (wpAny_operating h₂)))))
theorem wpAny_isTrue_Compare1 {l op r pos whole} {Q : Bool → Shared → Prop} (h : Wp cl B A (eval l env) (fun a s₁ => Wp cl B A (eval r env) (fun b s₂ => Wp cl B A (compareOp op a b) (fun c s₃ => Wp cl B A (truthy c) Q s₃) s₂) s₁) s) (hm : behindInMarks op r = false) :
    Wp cl B A (isTrue (.Compare l [op] [r] pos) env whole) Q s := by
  rw [isTrue_Compare1, markedBehindIn_of_false hm]
  exact wpAny_bind (h.mono fun a s₁ h₁ => wpAny_bind (wpAny_holding (h₁.mono fun b s₂ h₂ => wpAny_bind (wpAny_standAt (wpAny_bind (wpAny_operating (h₂.mono fun c s₃ h₃ => wpAny_holding h₃)))))))
theorem wpAny_UnaryOp {op : UnaryOp} {x : Expr} {pos : Pos} {Q : Value → Shared → Prop} (h : Wp cl B A (eval x env) (fun v s₁ => Wp cl B A (unaryOp op v) Q s₁) s) : Wp cl B A (eval (.UnaryOp op x pos) env) Q s := by
  rw [arm_eval_UnaryOp]
  exact wpAny_bind (h.mono fun v s₁ h₁ => wpAny_bind (wpAny_standAt (wpAny_holding h₁)))
theorem wpAny_IfExp {test body orelse : Expr} {pos : Pos} {Q : Value → Shared → Prop} (h : Wp cl B A (isTrue test env (eval test env)) (fun b s₁ => if b then Wp cl B A (eval body env) Q s₁ else Wp cl B A (eval orelse env) Q s₁) s) :
    Wp cl B A (eval (.IfExp test body orelse pos) env) Q s := by
  rw [arm_eval_IfExp]
  refine wpAny_bind (h.mono fun b s₁ h₁ => ?_)
  cases b <;> exact h₁
theorem wpAny_isTrue_Not {x : Expr} {pos : Pos} {whole : Sem Value} {Q : Bool → Shared → Prop} (h : Wp cl B A (isTrue x env (eval x env)) (fun b s₁ => Q (!b) s₁) s) : Wp cl B A (isTrue (.UnaryOp .Not x pos) env whole) Q s := by
  rw [arm_isTrue_UnaryOp]
  exact wpAny_bind (h.mono fun b s₁ h₁ => wpAny_pure h₁)
theorem wpAny_isTrue_value {e : Expr} {whole : Sem Value} {Q : Bool → Shared → Prop} (h : Wp cl B A whole (fun v s₁ => Wp cl B A (truthy v) Q s₁) s)
    (he : isTrue e env whole = (do let v ← whole; standAt e.pos; holding [v] (truthy v))) : Wp cl B A (isTrue e env whole) Q s := by
  rw [he]
  exact wpAny_bind (h.mono fun v s₁ h₁ => wpAny_bind (wpAny_standAt (wpAny_holding h₁)))
theorem wpAny_isTrue_BoolOp {op : BoolOp} {values : List Expr} {pos : Pos} {whole : Sem Value} {Q : Bool → Shared → Prop} (h : Wp cl B A (allTrue op values env) Q s) : Wp cl B A (isTrue (.BoolOp op values pos) env whole) Q s := by rw [arm_isTrue_BoolOp]; exact h
theorem wpAny_allTrue_And_nil {Q : Bool → Shared → Prop} (h : Q true s) : Wp cl B A (allTrue .And [] env) Q s := wpAny_pure h
theorem wpAny_allTrue_Or_nil {Q : Bool → Shared → Prop} (h : Q false s) : Wp cl B A (allTrue .Or [] env) Q s := wpAny_pure h
theorem wpAny_allTrue_And_cons {x : Expr} {rest : List Expr} {Q : Bool → Shared → Prop} (h : Wp cl B A (isTrue x env (eval x env)) (fun b s₁ => if b then Wp cl B A (allTrue .And rest env) Q s₁ else Q false s₁) s) : Wp cl B A (allTrue .And (x :: rest) env) Q s := by
  rw [arm_allTrue_cons]
  refine wpAny_bind (h.mono fun b s₁ h₁ => ?_)
  cases b
  · exact wpAny_pure h₁
  · exact h₁
theorem wpAny_allTrue_Or_cons {x : Expr} {rest : List Expr} {Q : Bool → Shared → Prop} (h : Wp cl B A (isTrue x env (eval x env)) (fun b s₁ => if b then Q true s₁ else Wp cl B A (allTrue .Or rest env) Q s₁) s) : Wp cl B A (allTrue .Or (x :: rest) env) Q s := by
  rw [arm_allTrue_cons]
  refine wpAny_bind (h.mono fun b s₁ h₁ => ?_)
  cases b
  · exact h₁
  · exact wpAny_pure h₁
theorem not_value {v : Value} {Q : Value → Shared → Prop} (h : Wp cl B A (truthy v) (fun b s₁ => Q (.bool (!b)) s₁) s) : Wp cl B A (unaryOp .Not v) Q s := by
  unfold unaryOp
  refine wpAny_holding ?_
  show Wp cl B A (do return .bool (!(← truthy v))) Q s
  exact wpAny_bind (h.mono fun b s₁ h₁ => wpAny_pure h₁)
theorem args_nil {pos : Pos} {Q : List Value → Shared → Prop} (h : Q [] s) : Wp cl B A (spliced (backTo pos (starEach [] env))) Q s := wpAny_pure h
theorem spliced_cons {x : Sem Value} {rest : List (Bool × Sem Value)} {Q : List Value → Shared → Prop} (h : Wp cl B A x (fun v s₁ => Wp cl B A (spliced rest) (fun vs s₂ => Q (v :: vs) s₂) s₁) s) : Wp cl B A (spliced ((false, x) :: rest)) Q s := by
  show Wp cl B A (do
    let v ← x
    let here ← (pure [v] : Sem (List Value))
    return here ++ (← holding here (spliced rest))) Q s
  exact wpAny_bind (h.mono fun v s₁ h₁ => wpAny_bind (wpAny_pure (wpAny_bind (wpAny_holding (h₁.mono fun vs s₂ h₂ => wpAny_pure h₂)))))
theorem spliced_nil {Q : List Value → Shared → Prop} (h : Q [] s) : Wp cl B A (spliced []) Q s := wpAny_pure h
theorem args_cons {pos : Pos} {e : Expr} {rest : List Expr} {Q : List Value → Shared → Prop} (h : Wp cl B A (eval e env) (fun v s₁ => Wp cl B A (spliced (backTo pos (starEach rest env))) (fun vs s₂ => Q (v :: vs) s₂) s₁) s)
    (he : starEach (e :: rest) env = (false, eval e env) :: starEach rest env) : Wp cl B A (spliced (backTo pos (starEach (e :: rest) env))) Q s := by
  rw [he]; exact spliced_cons h
theorem wpAny_Tuple {elts : List Expr} {k : Nat} {pos : Pos} {Q : Value → Shared → Prop}
    (h : Wp cl B A (spliced (backTo pos (starEach elts env))) (fun vs s₁ => vs.length ≤ sizeLine ∧ Q (.ref s₁.heap.objs.size) { s₁ with heap := s₁.heap.push { cls := .type "tuple", data := .seq vs.toArray } }) s) : Wp cl B A (eval (.Tuple elts k pos) env) Q s := by
  rw [arm_eval_Tuple]
  exact wpAny_bind (wpAny_standAt (wpAny_bind (h.mono fun vs s₁ h₁ => leaf (wpAny_newObj_type h₁.2 (by show vs.toArray.size ≤ sizeLine; rw [List.size_toArray]; exact h₁.1)))))
theorem wpAny_List {elts : List Expr} {pos : Pos} {Q : Value → Shared → Prop}
    (h : Wp cl B A (spliced (backTo pos (starEach elts env))) (fun vs s₁ => vs.length ≤ sizeLine ∧ Q (.ref s₁.heap.objs.size) { s₁ with heap := s₁.heap.push { cls := .type "list", data := .seq vs.toArray } }) s) : Wp cl B A (eval (.List elts pos) env) Q s := by
  rw [arm_eval_List]
  exact wpAny_bind (wpAny_standAt (wpAny_bind (h.mono fun vs s₁ h₁ => leaf (wpAny_newObj_type h₁.2 (by show vs.toArray.size ≤ sizeLine; rw [List.size_toArray]; exact h₁.1)))))
theorem wpAny_Slice {lower upper step : Option Expr} {p : Pos} {Q : Value → Shared → Prop}
    (h : Wp cl B A (evalPart lower env) (fun l s₁ => Wp cl B A (evalPart upper env) (fun u s₂ => Wp cl B A (evalPart step env) (fun st s₃ =>
      Q (.ref s₃.heap.objs.size) { s₃ with heap := s₃.heap.push { cls := .type "slice", data := .fields #[l, u, st] } }) s₂) s₁) s) :
    Wp cl B A (eval (.Slice lower upper step p) env) Q s := by
  rw [arm_eval_Slice]
  exact wpAny_bind (h.mono fun l s₁ h₁ => wpAny_bind (wpAny_holding (h₁.mono fun u s₂ h₂ => wpAny_bind (wpAny_holding (h₂.mono fun st s₃ h₃ => leaf (wpAny_newObj_type h₃))))))
theorem Call_Name {x : Str} {p pos : Pos} {args : List Expr} {trees : List (Bool × Sem Value)} {Q : Value → Shared → Prop} (ht : backTo pos (starEach args env) = trees)
    (h : Wp cl B A (eval (.Name x p) env) (fun f s₁ => Wp cl B A (callWith pos f [] trees []) Q s₁) s) : Wp cl B A (eval (.Call (.Name x p) args [] pos) env) Q s := by
  subst ht
  exact wpAny_bind h
theorem evalArgs_plain {f : Value} {x : Sem Value} {rest : List (Bool × Sem Value)} {Q : Args → Shared → Prop} (h : Wp cl B A (spliced ((false, x) :: rest)) (fun vs s' => Q { pos := vs } s') s) : Wp cl B A (evalArgs f true ((false, x) :: rest) []) Q s := by
  unfold evalArgs
  show Wp cl B A (spliced ((false, x) :: rest) >>= _) Q s
  refine wpAny_bind (h.mono fun vs s' h' => wpAny_bind (wpAny_pure ?_))
  refine wpAny_holding ?_
  exact wpAny_bind (wpAny_pure (wpAny_bind (wpAny_pure (wpAny_pure h'))))
theorem callWith_of {pos : Pos} {f : Value} {first : List Value} {Q : Value → Shared → Prop} {P : Heap → Prop} {args : List (Bool × Sem Value)} {keywords : List (Option Str × Sem Value)} (hplain : (args.any (·.1) || keywords.any (·.1.isNone)) = false)
    (hk : ∀ h, P h → ∃ k, (k = Keeper.frame ∨ k = Keeper.machine ∨ k = Keeper.boundFrame) ∧ Looks (model pw B.w) h (keeperOf f) k)
    (h : Wp cl B A (evalArgs f true args keywords) (fun a s₁ => P s₁.heap ∧ Wp cl B A (call f (first ++ a.pos) a.kw) Q s₁) s) : Wp cl B A (callWith pos f first args keywords) Q s := by
  unfold callWith
  refine wpAny_bind (wpAny_holding (h.mono fun a s₁ h₁ => wpAny_bind (wpAny_standAt ?_)))
  refine Classical.byContradiction fun hG0 => ?_
  obtain ⟨k, hk', L⟩ := hk _ h₁.1
  refine hG0 ?_
  revert hplain
  generalize (args.any (·.1) || keywords.any (·.1.isNone)) = st
  intro hplain
  subst hplain
  refine wpAny_bind (leaf (L.here ?_))
  have tail : ∀ {t : Sem Value}, Wp cl B A t Q s₁ → Wp cl B A (t >>= fun r => holding [r] point >>= fun _ => pure r) Q s₁ :=
    fun ht => wpAny_bind (ht.mono fun r s₂ hr => wpAny_bind (wpAny_holding (wpAny_point (wpAny_pure hr))))
  have marked (mk : Value) : Wp cl B A (callMarked mk f (first ++ a.pos) a.kw) Q s₁ := by unfold callMarked; exact wpAny_keep h₁.2
  have pick : ∀ {c : Prop} {_ : Decidable c} {t u : Sem Value}, Wp cl B A t Q s₁ → Wp cl B A u Q s₁ → Wp cl B A (if c then t else u) Q s₁ := fun ht hu => by
    split
    · exact ht
    · exact hu
  rcases hk' with rfl | rfl | rfl
  · exact pick (tail h₁.2) (tail (marked _))
  · exact tail h₁.2
  · exact pick (tail h₁.2) (tail (marked _))

/-! statements -/
theorem wpAny_execs_nil {Q : Flow → Shared → Prop} (h : Q .next s) : Wp cl B A (execs [] env) Q s := wpAny_pure h
theorem wpAny_execs_cons {st rest} {Q : Flow → Shared → Prop} (h : Wp cl B A (exec st env) (fun f s' => match f with | .next => Wp cl B A (execs rest env) Q s' | f => Q f s') s) : Wp cl B A (execs (st :: rest) env) Q s := by
  rw [execs_cons]
  refine wpAny_bind (h.mono fun f s' h' => ?_)
  cases f <;> first | exact h' | exact wpAny_pure h'
theorem wpAny_Expr {e pos} {Q : Flow → Shared → Prop} (h : Wp cl B A (eval e env) (fun v s' => match v with | .ref _ => False | _ => Q .next s') s) (hi : interactive env = false) (hs : swapsWith e none pos.line env = pure false) : Wp cl B A (exec (.Expr e pos) env) Q s := by
  rw [exec_Expr env e pos hi hs]
  refine wpAny_bind (wpAny_standAt (wpAny_bind (h.mono fun v s' h' => ?_)))
  have hv : ∀ a, v ≠ .ref a := fun a hva => by subst hva; exact h'
  rw [dropValue_plain hv]
  refine wpAny_pure ?_
  cases v <;> first | exact h' | exact (hv _ rfl).elim
theorem wpAny_Assign_Name {x pos' value pos} {Q : Flow → Shared → Prop} (h : Wp cl B A (eval value env) (fun v s₁ => Wp cl B A (storeName env x v) (fun _ => Q .next) s₁) s) (hs : swapsWith value (some (.Name x pos')) pos.line env = pure false) :
    Wp cl B A (exec (.Assign [.Name x pos'] value pos) env) Q s := by
  rw [exec_Assign_Name env x pos' value pos hs]
  exact wpAny_bind (wpAny_standAt (wpAny_bind (h.mono fun v s₁ h₁ => wpAny_bind (wpAny_standAt (wpAny_bind (wpAny_bindName (h₁.mono fun _ _ q => wpAny_pure q)))))))
theorem wpAny_AugAssign_Name {x pos' op value pos} {Q : Flow → Shared → Prop}
    (h : Wp cl B A (loadName env x) (fun old s₁ => Wp cl B A (eval value env) (fun v s₂ => Wp cl B A (inplaceOp op old v) (fun r s₃ => Wp cl B A (storeName env x r) (fun _ => Q .next) s₃) s₂) s₁) s) :
    Wp cl B A (exec (.AugAssign (.Name x pos') op value pos) env) Q s := by
  rw [exec_AugAssign_Name]
  exact wpAny_bind (wpAny_standAt (wpAny_bind (h.mono fun old s₁ h₁ => wpAny_bind (wpAny_holding (h₁.mono fun v s₂ h₂ => wpAny_bind (wpAny_standAt (wpAny_bind (wpAny_operating (h₂.mono fun r s₃ h₃ => wpAny_bind (wpAny_standAt (wpAny_bind (wpAny_bindName (h₃.mono fun _ _ q => wpAny_pure q)))))))))))))
theorem wpAny_If {test body orelse pos} {Q : Flow → Shared → Prop} (h : Wp cl B A (isTrue test env (eval test env)) (fun b s₂ => if b then Wp cl B A (execs body env) Q s₂ else Wp cl B A (execs orelse env) Q s₂) s) : Wp cl B A (exec (.If test body orelse pos) env) Q s := by
  rw [exec_If]
  refine wpAny_bind (wpAny_standAt (wpAny_bind (h.mono fun b s₂ h₂ => ?_)))
  cases b <;> exact h₂
theorem wpAny_Return_some {e pos} {Q : Flow → Shared → Prop} (h : Wp cl B A (eval e env) (fun v => Q (.ret v)) s) : Wp cl B A (exec (.Return (some e) pos) env) Q s := by
  rw [exec_Return_some]
  exact wpAny_bind (wpAny_standAt (wpAny_bind (h.mono fun v s' q => wpAny_pure q)))
theorem wpAny_Assign_stores {targets : List Expr} {value : Expr} {pos : Pos} {Q : Flow → Shared → Prop} (h : Wp cl B A (eval value env) (fun v s₁ => Wp cl B A (assignAll v ((assignEach targets env).map (·.2))) (fun _ => Q .next) s₁) s)
    (hs : swapsWithSole targets value pos.line env = pure false) (hw : swappedStores targets value env = pure none) : Wp cl B A (exec (.Assign targets value pos) env) Q s := by
  rw [exec_Assign_arm]
  refine wpAny_bind (wpAny_standAt ?_)
  rw [hs]
  refine wpAny_bind (wpAny_pure ?_)
  rw [if_neg (by decide)]
  refine wpAny_bind (h.mono fun v s₁ h₁ => ?_)
  rw [hw]
  refine wpAny_bind (wpAny_pure ?_)
  show Wp cl B A (do assignAll v ((assignEach targets env).map (·.2)); pure Flow.next) Q s₁
  exact wpAny_bind (h₁.mono fun _ _ x => wpAny_pure x)
theorem plainObj_wpAny_Assign_Attribute {o attr pos' value pos} {Q : Flow → Shared → Prop} (h : Wp cl B A (eval value env) (fun v s₁ => Wp cl B A (eval o env) (fun ov s₂ => Wp cl B A (setAttr ov attr v) (fun _ => Q .next) s₂) s₁) s)
    (hs : swapsWith value (some (.Attribute o attr pos')) pos.line env = pure false) : Wp cl B A (exec (.Assign [.Attribute o attr pos'] value pos) env) Q s := by
  refine wpAny_Assign_stores (h.mono fun v s₁ h₁ => ?_) hs (by cases value <;> rfl)
  show Wp cl B A (assign (.Attribute o attr pos') env v) _ s₁
  rw [arm_assign_Attribute]
  exact wpAny_bind (wpAny_holding (h₁.mono fun ov s₂ h₂ => wpAny_bind (wpAny_standAt (wpAny_bind (wpAny_holding (h₂.mono fun _ _ q => wpAny_release q))))))
theorem wpAny_AugAssign_AttributeAny {o value : Expr} {attr : Str} {tpos pos : Pos} {op : Operator} {Q : Flow → Shared → Prop}
    (h : Wp cl B A (eval o env) (fun ov s₁ => Wp cl B A (getAttr ov attr true) (fun old s₂ => Wp cl B A (eval value env) (fun v s₃ => Wp cl B A (inplaceOp op old v) (fun new s₄ => Wp cl B A (setAttr ov attr new) (fun _ => Q .next) s₄) s₃) s₂) s₁) s) :
    Wp cl B A (exec (.AugAssign (.Attribute o attr tpos) op value pos) env) Q s := by
  have e : exec (.AugAssign (.Attribute o attr tpos) op value pos) env = (do
      standAt pos
      let ov ← eval o env
      let new ← holding [ov] do
        standAt tpos.atName
        let old ← getAttr ov attr true
        let v ← holding [old] (eval value env)
        standAt pos
        operate [old, v] (inplaceOp op old v)
      standAt tpos.atName
      holding [new, ov] (setAttr ov attr new)
      release [new, ov] []
      pure .next) := rfl
  rw [e]
  refine wpAny_bind (wpAny_standAt (wpAny_bind (h.mono fun ov s₁ h₁ => ?_)))
  refine wpAny_bind (wpAny_holding (wpAny_bind (wpAny_standAt (wpAny_bind (h₁.mono fun old s₂ h₂ => ?_)))))
  refine wpAny_bind (wpAny_holding (h₂.mono fun v s₃ h₃ => ?_))
  refine wpAny_bind (wpAny_standAt (wpAny_operating (h₃.mono fun new s₄ h₄ => ?_)))
  exact wpAny_bind (wpAny_standAt (wpAny_bind (wpAny_holding (h₄.mono fun _ _ h₅ => wpAny_bind (wpAny_release (wpAny_pure h₅))))))
theorem wpAny_For {target iter : Expr} {body orelse : List Stmt} {pos : Pos} {Q : Flow → Shared → Prop}
    (h : Wp cl B A (eval iter env) (fun x s₁ => Wp cl B A (pyIter x) (fun it s₂ => Cd cl B A (.forLoop target it body orelse env) (fun r s' => match r with | .ok f => Q f s' | .error _ => False) s₂) s₁) s)
    (hs : ∀ x, foldedSetIterable iter env x = pure x) : Wp cl B A (exec (.For target iter body orelse pos) env) Q s := by
  show Wp cl B A (do
    standAt pos
    let x ← foldedSetIterable iter env (← eval iter env)
    standAt iter.pos
    runOwn (.forLoop target (← holding [x] (pyIter x)) body orelse env) env) Q s
  refine wpAny_bind (wpAny_standAt (wpAny_bind (h.mono fun x s₁ h₁ => wpAny_bind (wpAny_of_eq (hs x) (wpAny_bind (wpAny_standAt (wpAny_bind (wpAny_holding (h₁.mono fun it s₂ h₂ => ?_)))))))))
  unfold runOwn
  exact wpAny_onRaise (wpAny_run h₂)
end
end Tk

namespace Tk
open PySem PySem.W PyProof.Rows PySem.Calls
section
variable {α β : Type} {cl : Bool} {B : Bs} {A : Around} {s : Shared} {env : Env}

theorem wpAny_letGo {cenv : Env} {cellsOf : List (Str × NameKind) → List Value} (hkind : cenv.scope.kind = .function) {Q : Unit → Shared → Prop} (vs : List (Str × NameKind)) (s : Shared) (m : Str → Option Value) (hv : ∀ x ∈ vs, x.2 = .local → cenv.kindOf x.1 = some .local) (hn : s.heap.Ns cenv.locals m)
    (hQ : ∀ h' m', h'.Ns cenv.locals m' → Heap.SameBut cenv.locals s.heap h' → Q () { s with heap := h' }) : Wp cl B A (comprehension.letGo cenv cellsOf vs) Q s := leaf (wpAny_comp_letGo hkind vs s m hv hn hQ)
/-- what is asked behind a comprehension's block -/
noncomputable def compPost' (cl : Bool) (B : Bs) (A : Around) (use : Option (Value → Sem Unit)) (Q : Value → Shared → Prop) (acc : Value) (C : Addr) (r : Result) (s' : Shared) : Prop :=
  match r, use with
  | .ok _, none => ∃ m, s'.heap.Ns C m ∧ ∀ h', Heap.SameBut C s'.heap h' → Q acc { s' with heap := h' }
  | .ok _, some u => Wp cl B A (u acc) (fun _ s'' => ∃ m, s''.heap.Ns C m ∧ ∀ h', Heap.SameBut C s''.heap h' → Q .none { s'' with heap := h' }) s'
  | .error _, _ => False
theorem wpAny_standIf' {c : Prop} [Decidable c] {pos : Pos} {k : PUnit → Sem α} {Q : α → Shared → Prop} (h : Wp cl B A (k ()) Q s) : Wp cl B A (if c then (standAt pos >>= k) else k ()) Q s := by
  split
  · exact wpAny_bind (wpAny_standAt h)
  · exact h
theorem wpAny_comprehension_free {e : Expr} {scope : Scope} {pos : Pos} {newAcc first : Sem Value} {g : Comprehension} {gs : List Comprehension} {cs : List (Str × Addr)} {use : Option (Value → Sem Unit)} {Q : Value → Shared → Prop}
    (hcl : clausesOf e = g :: gs) (hs : ∀ x, foldedSetIterable g.iter env x = pure x) (hclos : closureFor scope env = pure cs)
    (hkind : scope.kind = .function) (hnames : ∀ x ∈ scope.names, x.2 = .local → scope.names.lookup x.1 = some .local)
    (h : Wp cl B A first (fun x s₁ => Wp cl B A (pyIter x) (fun it s₂ => Wp cl B A newAcc (fun acc s₃ =>
      Wp cl B A (newFunctionEnv scope env.globals cs [] env.qual none .none (some env)) (fun cenv s₄ =>
        Cd cl B A (.compStart e 0 it acc { cenv with scope := relabel scope env }) (compPost' cl B A use Q acc cenv.locals) s₄) s₃) s₂) s₁) s) :
    Wp cl B A (comprehension e scope env pos newAcc false first use) Q s := by
  unfold comprehension
  rw [hclos, hcl]
  refine wpAny_bind (h.mono fun x s₁ h₁ => wpAny_bind (wpAny_standAt (wpAny_bind (wpAny_of_eq (hs x) (wpAny_bind (wpAny_holding (h₁.mono fun it s₂ h₂ =>
    wpAny_standIf' (wpAny_bind (h₂.mono fun acc s₃ h₃ => wpAny_bind (wpAny_pure (wpAny_bind (h₃.mono fun cenv s₄ h₄ => ?_))))))))))))
  dsimp only
  have hv : ∀ x ∈ (scope.names.filter fun x => (x.2 == .local || x.2 == .cell) && x.1 != (".0" : Str)).reverse, x.2 = .local →
      Env.kindOf { cenv with scope := relabel scope env } x.1 = some .local := fun x hx hl => lookup_relabel_local (hnames x (List.mem_filter.mp (List.mem_reverse.mp hx)).1 hl)
  have hv' : ∀ x ∈ (scope.names.filter fun x => (x.2 == .local || x.2 == .cell) && x.1 != (".0" : Str)).reverse.drop 1 ++ (scope.names.filter fun x => (x.2 == .local || x.2 == .cell) && x.1 != (".0" : Str)).reverse.take 1,
      x.2 = .local → Env.kindOf { cenv with scope := relabel scope env } x.1 = some .local := fun x hx hl => by
    rcases List.mem_append.mp hx with h1 | h1
    · exact hv x (List.mem_of_mem_drop h1) hl
    · exact hv x (List.mem_of_mem_take h1) hl
  refine wpAny_holding (wpAny_bind (wpAny_attempt (wpAny_holding (wpAny_run (h₄.mono fun r s' hr => ?_)))))
  cases r with
  | error x => exact hr.elim
  | ok f =>
    cases use with
    | none =>
      obtain ⟨m, hn, hr⟩ := hr
      exact wpAny_bind (wpAny_holding (wpAny_letGo (cenv := { cenv with scope := relabel scope env }) hkind _ s' m hv hn fun h' m' _ hs' => wpAny_pure (hr h' hs')))
    | some u =>
      refine wpAny_bind (wpAny_rule (wpAny_bind (wpAny_holding (hr.mono fun _ s'' hr' => ?_))))
      obtain ⟨m, hn, hr'⟩ := hr'
      exact wpAny_bind (wpAny_letGo (cenv := { cenv with scope := relabel scope env }) hkind _ s'' m hv' hn fun h' m' _ hs' => wpAny_pure (hr' h' hs'))
theorem codeAny_compStart_list {elt target iter : Expr} {ifs : List Expr} {rest : List Comprehension} {scope : Scope} {pos : Pos} {it acc : Value} {R : Result → Shared → Prop}
    (h0 : Cd cl B A (.compLoop (.ListComp elt (⟨target, iter, ifs, 0⟩ :: rest) scope pos) 0 it acc env) R s)
    (h : Wp cl B A (pyIter it) (fun it' s' => Cd cl B A (.compLoop (.ListComp elt (⟨target, iter, ifs, 0⟩ :: rest) scope pos) 0 it' acc env) R s') s) :
    Cd cl B A (.compStart (.ListComp elt (⟨target, iter, ifs, 0⟩ :: rest) scope pos) 0 it acc env) R s := by
  refine codeAny_of_tree rfl ?_
  show Wp cl B _ ((compStart (.ListComp elt (⟨target, iter, ifs, 0⟩ :: rest) scope pos) 0 it acc env).onRaise (fun x => do noteFrame x env; standAt theWindowsPlace)) _ s
  refine wpAny_onRaise ?_
  unfold compStart
  show Wp cl B _ (ask >>= _) _ s
  refine wpAny_bind (leaf (wpAny_askSetting ?_))
  split
  · first
      | exact wpAny_bind (wpAny_pure (wpAny_pure (And.intro rfl h0)))
      | exact wpAny_pure (And.intro rfl h0)
  · first
      | exact wpAny_bind (wpAny_rule (wpAny_bind (wpAny_standAt (wpAny_bind (h.mono fun it' s' h' => wpAny_pure (And.intro rfl h'))))))
      | (refine wpAny_bind (wpAny_rule ?_); show Wp cl B _ (standAt iter.pos >>= _) _ s; exact wpAny_bind (wpAny_standAt (wpAny_bind (h.mono fun it' s' h' => wpAny_pure (And.intro rfl h')))))
theorem codeAny_compLoop_list {elt target iter : Expr} {scope : Scope} {pos : Pos} {it acc : Value} {R : Result → Shared → Prop} (I : Nat → Shared → Prop)
    (turn : ∀ n s, I n s → Wp cl B A (pyNext it) (fun r s₁ => match r with
      | none => R (.ok .next) s₁
      | some v => Wp cl B A (letOwnedTupleGo target it v) (fun _ s₁ => Wp cl B A (assign target env v) (fun _ s₂ => Wp cl B A (eval elt env) (fun x s₃ =>
          Wp cl B A (call (.builtin "list.append") [acc, x]) (fun _ s₄ => ∃ m, m < n ∧ I m s₄) s₃) s₂) s₁) s₁) s)
    (n : Nat) (h : I n s) : Cd cl B A (.compLoop (.ListComp elt [⟨target, iter, [], 0⟩] scope pos) 0 it acc env) R s := by
  refine codeAny_loop' rfl rfl I (fun n s hI => ?_) n h
  show Wp cl B _ ((compTurn (.ListComp elt [⟨target, iter, [], 0⟩] scope pos) 0 it acc env).onRaise (fun x => do noteFrame x env; theTreesLotGoes x)) _ s
  refine wpAny_onRaise ?_
  rw [compTurn_list1]
  refine wpAny_bind (wpAny_standAt (wpAny_bind ((turn n s hI).mono fun r s₁ h₁ => ?_)))
  cases r with
  | none => exact wpAny_pure h₁
  | some v =>
    exact wpAny_bind (h₁.mono fun _ s₁ h₁ => wpAny_bind (h₁.mono fun _ s₂ h₂ => wpAny_bind (wpAny_bind (h₂.mono fun x s₃ h₃ => wpAny_bind (h₃.mono fun _ s₄ h₄ => wpAny_pure (wpAny_pure (.inl ⟨rfl, h₄⟩)))))))

/-! calls of own functions -/
theorem codeAny_func {body : List Stmt} {R : Result → Shared → Prop} (h : Wp cl B (A.deeper env) (execs body env) (fun f s' => R (.ok (.ret (match f with | .ret v => v | _ => .none))) s') s) : Cd cl B A (.func body env) R s := by
  refine codeAny_of_tree rfl ?_
  show Wp cl B (A.deeper env) (do point; match ← (execs body env).onRaise (leaving env) with | .ret v => ret v | _ => ret .none) _ s
  refine wpAny_bind (wpAny_point (wpAny_bind (wpAny_onRaise (h.mono fun f s' h' => ?_))))
  cases f <;> exact wpAny_pure h'
theorem codeAny_call_cells {R : Result → Shared → Prop} {a : Addr} {o : Obj} {fd : FuncData} {body : List Stmt} {vals : List Value} {binds : List (Str × Value)}
    (hroom : A.depth < recursionLimit) (ho : s.heap.get? a = some o) (hdata : o.data = .func fd) (hlim : s.heap.NoLimit) (hcd : s.heap.CodeRec fd.code fd.qualname)
    (hbody : fd.body = .stmts body) (hbind : WpA B A.in1 (bindArgs fd ⟨vals, []⟩) (fun b s' => b = binds ∧ s' = s) s) (hclo : fd.closure = [])
    (hkind : ∀ x ∈ binds, fd.scope.names.lookup x.1 = some .local ∨ (fd.scope.names.lookup x.1 = some .cell ∧ ((cellsFrom (s.heap.objs.size + 1) fd.scope.names []).lookup x.1).isSome = true))
    (h : ∀ s₁, InCallC s (callEnvC fd s.heap.objs.size a).locals (bindL (callEnvC fd s.heap.objs.size a).kindOf binds fun _ => none) (callEnvC fd s.heap.objs.size a).cells
        (bindC (callEnvC fd s.heap.objs.size a).kindOf binds fun _ => none) s₁ →
      Wp cl B (A.deeper (callEnvC fd s.heap.objs.size a)) (execs body (callEnvC fd s.heap.objs.size a)) (fun f s' => R (.ok (.ret (match f with | .ret v => v | _ => .none))) s') s₁)
    (hco : fd.scope.isCoroutine = false) (hgen : fd.scope.isGenerator = false) (hk : fd.scope.kind = .function) :
    Cd cl B A (.call (.ref a) ⟨vals, []⟩) R s := by
  refine codeAny_of_tree rfl ?_
  show Wp cl B A.in1 (callAny (.ref a) ⟨vals, []⟩) _ s
  simp only [callAny]
  refine wpAny_bind (leaf (wpAny_load ho ?_))
  refine Classical.byContradiction fun hG0 => ?_
  obtain ⟨c, oc, vs, tq, hc, hoc, hdc, hq⟩ := id hcd
  refine hG0 ?_
  simp only [hdata, callFunction, hco, hgen, hbody, hc]
  refine wpAny_bind (leaf (PySem.wpAny_field hoc hdc hq ?_))
  refine wpAny_bind (wpAny_pure ?_)
  refine wpAny_bind ((leaf hbind).mono fun b s' hb => ?_)
  refine Classical.byContradiction fun hG1 => ?_
  obtain ⟨hb1, hb2⟩ := hb
  refine hG1 ?_
  subst hb1
  have hb2 := hb2.symm
  subst hb2
  rw [hclo]
  refine wpAny_bind (leaf (wpAny_newFunctionEnv_cells hk hkind fun env' he s' x => ?_))
  have hcode : callEnvC fd s.heap.objs.size a = env' := by
    rw [he]; unfold callEnvC; rw [hc]
  subst hcode
  refine wpAny_bind (leaf (wpAny_enterFrame (hlim.keeps x.toInCall.keep) hroom ?_))
  exact wpAny_pure ⟨rfl, codeAny_func (h s' x)⟩
end
end Tk

namespace Tk
open PySem PySem.W PyProof.Rows PySem.Calls

noncomputable def CallOK (cl : Bool) (B : Bs) (A : Around) (f : Nat) (args : List AV) (σ : St) (v : AV) (σ' : St) : Prop :=
  ∀ ρ s Vs, Rel B ρ σ s → VMs B ρ args Vs → Cd cl B A (.call (.ref f) ⟨Vs, []⟩) (Ret (PV B ρ s σ' v)) s
noncomputable def OrcOK (cl : Bool) (B : Bs) (O : Orc) (A : Around) : Prop := ∀ f args σ v σ', O f args σ = some (v, σ') → CallOK cl B A f args σ v σ'
noncomputable def EvOK (cl : Bool) (B : Bs) (O : Orc) (nm : List Str) (A : Around) (e : E) : Prop := ∀ ast env η σ v σ' ρ s, chk nm env.scope e ast = true → ev O B.ns prices e η σ = some (v, σ') → Rel B ρ σ s → Frm B env nm η ρ s.heap →
  Wp cl B A (eval ast env) (PV B ρ s σ' v) s
noncomputable def EsOK (cl : Bool) (B : Bs) (O : Orc) (nm : List Str) (A : Around) (es : Es) : Prop := ∀ xs env η σ vs σ' ρ s pos, chks nm env.scope es xs = true → evs O B.ns prices es η σ = some (vs, σ') → Rel B ρ σ s → Frm B env nm η ρ s.heap →
  Wp cl B A (spliced (backTo pos (starEach xs env))) (fun Vs s' => ∃ ρ', Goes Non ρ s.heap ρ' s'.heap ∧ Rel B ρ' σ' s' ∧ VMs B ρ' vs Vs) s
noncomputable def PB (B : Bs) (ρ : List Addr) (s : Shared) (σ' : St) (b : Bool) (c : Bool) (s' : Shared) : Prop := c = b ∧ ∃ ρ', Goes Non ρ s.heap ρ' s'.heap ∧ Rel B ρ' σ' s'
noncomputable def TsOK (cl : Bool) (B : Bs) (O : Orc) (nm : List Str) (A : Around) (e : E) : Prop := ∀ ast env η σ b σ' ρ s, chk nm env.scope e ast = true → ev O B.ns prices e η σ = some (.bool b, σ') → Rel B ρ σ s → Frm B env nm η ρ s.heap →
  Wp cl B A (isTrue ast env (eval ast env)) (PB B ρ s σ' b) s
section
variable {cl : Bool} {B : Bs} {O : Orc} {nm : List Str} {A : Around} {env : Env} {η : En} {σ σ' σ₁ : St} {ρ ρ' : List Addr} {s s' : Shared} {v : AV} {V : Value}

theorem PB.after {s'' : Shared} {b c : Bool} (G : Goes Non ρ s.heap ρ' s'.heap) (h : PB B ρ' s' σ' b c s'') : PB B ρ s σ' b c s'' := by
  refine Classical.byContradiction fun hG0 => ?_
  obtain ⟨q, r, g, R⟩ := h
  refine hG0 ?_
  exact ⟨q, r, G.trans g, R⟩

theorem Wp.pv {α : Sem Value} {Q : Value → Shared → Prop} (h : Wp cl B A α (PV B ρ s σ' v) s) (k : ∀ X s' ρ', Goes Non ρ s.heap ρ' s'.heap → Rel B ρ' σ' s' → VM B ρ' v X → Q X s') : Wp cl B A α Q s :=
  Wp.mono h fun X s' ⟨ρ', G, R, m⟩ => k X s' ρ' G R m
theorem Wp.pvs {α : Sem (List Value)} {vs : List AV} {Q : List Value → Shared → Prop} (h : Wp cl B A α (fun Vs s' => ∃ ρ', Goes Non ρ s.heap ρ' s'.heap ∧ Rel B ρ' σ' s' ∧ VMs B ρ' vs Vs) s) (k : ∀ X s' ρ', Goes Non ρ s.heap ρ' s'.heap → Rel B ρ' σ' s' → VMs B ρ' vs X → Q X s') : Wp cl B A α Q s :=
  Wp.mono h fun X s' ⟨ρ', G, R, m⟩ => k X s' ρ' G R m
theorem ok_int {i : Int} : EvOK cl B O nm A (.int i) := fun ast env η σ v σ' ρ s hc e R F => by
  refine chz_int hc fun j k p h => ?_
  obtain rfl := beq_iff_eq.mp h
  cases e
  exact leaf (wpAny_Constant_int (PV.now R (v := .int i) ⟨_, rfl⟩).tok)
theorem ok_bool {i : Bool} : EvOK cl B O nm A (.bool i) := fun ast env η σ v σ' ρ s hc e R F => by
  refine chz_bool hc fun j k p h => ?_
  obtain rfl := beq_iff_eq.mp h
  cases e
  exact leaf (wpAny_Constant_bool (PV.now R rfl))
theorem ok_none : EvOK cl B O nm A .none := fun ast env η σ v σ' ρ s hc e R F => by
  refine chz_none hc fun k p h => ?_
  cases e
  exact leaf (wpAny_Constant_none (PV.now R rfl))
theorem ok_var {i : Nat} : EvOK cl B O nm A (.var i) := fun ast env η σ v σ' ρ s hc e R F => by
  refine chz_var hc fun x p h => ?_
  refine mapE1 e fun w e1 e2 => ?_
  cases e2
  exact leaf (ev_var h e1 R F)
theorem gint_at {P : Params} {x : Str} {k : Int} (h : gints.lookup x = some k) : ∃ t, findIn3 (F3 P) x = some (.int k t) := by
  have := List.all_eq_true.mp (gints_ok P) (x, k) (mem_of_lookup h)
  dsimp only at this
  split at this
  · rename_i j t q; rw [beq_iff_eq.mp this] at q; exact ⟨t, q⟩
  · cases this
theorem ok_glob (K : B.Ok) {k : Int} : EvOK cl B O nm A (.glob k) := fun ast env η σ v σ' ρ s hc e R F => by
  refine chz_glob hc fun x p h => ?_
  obtain ⟨h1, h2⟩ := Bool.and_eq_true_iff.mp h
  cases e
  obtain ⟨t, q⟩ := gint_at (P := B.w.params) (beq_iff_eq.mp h2)
  exact leaf (ev_global K h1 R F q (PV.now R (v := .int k) ⟨t, rfl⟩))
theorem ok_bin (K : B.Ok) (hr : Room A 0) {o : Op} {a b : E} (ha : EvOK cl B O nm A a) (hb : EvOK cl B O nm A b) : EvOK cl B O nm A (.bin o a b) := fun ast env η σ v σ' ρ s hc e R F => by
  refine chz_bin hc fun l op r p h => ?_
  simp only [Bool.and_eq_true] at h
  refine bindE e fun x σ1 e1 e => ?_
  refine bindE e fun y σ2 e2 e => ?_
  refine wpAny_BinOp (Wp.pv (ha _ _ _ _ _ _ _ _ h.1.2 e1 R F) fun X s1 ρ1 G1 R1 m1 => ?_)
  refine Wp.pv (hb _ _ _ _ _ _ _ _ h.2 e2 R1 (F.go G1)) fun Y s2 ρ2 G2 R2 m2 => ?_
  exact Wp.mono (leaf (binv_ok K hr h.1.1 e R2 (m1.pre G2.pre) m2)) fun V s3 h3 => h3.after (G1.trans G2)
theorem ok_neg {a : E} (ha : EvOK cl B O nm A a) : EvOK cl B O nm A (.neg a) := fun ast env η σ v σ' ρ s hc e R F => by
  refine chz_neg hc fun x p h => ?_
  refine bindInt e (fun _ _ => rfl) (fun _ => rfl) (fun _ _ => rfl) (fun _ _ => rfl) (fun _ => rfl) (fun _ => rfl) fun i σ1 e1 e => ?_
  cases e
  refine wpAny_UnaryOp (Wp.pv (ha _ _ _ _ _ _ _ _ h e1 R F) fun X s1 ρ1 G1 R1 m1 => ?_)
  refine Classical.byContradiction fun hG0 => ?_
  obtain ⟨t, rfl⟩ := m1
  refine hG0 ?_
  exact leaf (neg_int ((PV.now R1 (v := .int _) ⟨_, rfl⟩).tok.after G1))
theorem ok_not {a : E} (ha : EvOK cl B O nm A a) : EvOK cl B O nm A (.not a) := fun ast env η σ v σ' ρ s hc e R F => by
  refine chz_not hc fun x p h => ?_
  refine bindBool e (fun _ _ => rfl) (fun _ => rfl) (fun _ _ => rfl) (fun _ _ => rfl) (fun _ => rfl) (fun _ => rfl) fun i σ1 e1 e => ?_
  cases e
  refine wpAny_UnaryOp (Wp.pv (ha _ _ _ _ _ _ _ _ h e1 R F) fun X s1 ρ1 G1 R1 m1 => ?_)
  cases m1
  exact not_value (wpAny_truthy_bool ((PV.now R1 (v := .bool _) rfl).after G1))
theorem ts_not {a : E} (ha : TsOK cl B O nm A a) : TsOK cl B O nm A (.not a) := fun ast env η σ b σ' ρ s hc e R F => by
  refine chz_not hc fun x p h => ?_
  refine bindBool e (fun _ _ => rfl) (fun _ => rfl) (fun _ _ => rfl) (fun _ _ => rfl) (fun _ => rfl) (fun _ => rfl) fun i σ1 e1 e => ?_
  cases e
  exact wpAny_isTrue_Not (Wp.mono (ha _ _ _ _ _ _ _ _ h e1 R F) fun c s1 ⟨q, r⟩ => ⟨by rw [q], r⟩)
/-- a test that is a value -/
theorem ts_value {e : E} (ha : EvOK cl B O nm A e) (he : ∀ ast sc, chk nm sc e ast = true → ∀ env whole, isTrue ast env whole = (do let v ← whole; standAt ast.pos; holding [v] (truthy v))) : TsOK cl B O nm A e := fun ast env η σ b σ' ρ s hc e1 R F =>
  wpAny_isTrue_value (Wp.pv (ha _ _ _ _ _ _ _ _ hc e1 R F) fun X s1 ρ1 G1 R1 m1 => by cases m1; exact wpAny_truthy_bool ⟨rfl, ρ1, G1, R1⟩) (he _ _ hc _ _)
theorem ok_isNone {a : E} (ha : EvOK cl B O nm A a) : EvOK cl B O nm A (.isNone a) := fun ast env η σ v σ' ρ s hc e R F => by
  refine chz_isNone hc fun l k q p h => ?_
  refine bindE e fun x σ1 e1 e => ?_
  refine wpAny_Compare1 (Wp.pv (ha _ _ _ _ _ _ _ _ h e1 R F) fun X s1 ρ1 G1 R1 m1 => leaf (wpAny_Constant_none ?_)) rfl
  cases x <;> first | (exact nn e) | skip
  · cases e; obtain ⟨t, rfl⟩ := m1; exact leaf (is_none ((PV.now R1 (v := .bool _) rfl).after G1))
  · cases e; cases m1; exact leaf (is_none ((PV.now R1 (v := .bool _) rfl).after G1))
theorem ts_isNone {a : E} (ha : EvOK cl B O nm A a) : TsOK cl B O nm A (.isNone a) := fun ast env η σ b σ' ρ s hc e R F => by
  refine chz_isNone hc fun l k q p h => ?_
  refine bindE e fun x σ1 e1 e => ?_
  refine wpAny_isTrue_Compare1 (Wp.pv (ha _ _ _ _ _ _ _ _ h e1 R F) fun X s1 ρ1 G1 R1 m1 => leaf (wpAny_Constant_none ?_)) rfl
  cases x <;> first | (exact nn e) | skip
  · cases e; obtain ⟨t, rfl⟩ := m1; exact leaf (is_none (wpAny_truthy_bool ⟨rfl, ρ1, G1, R1⟩))
  · cases e; cases m1; exact leaf (is_none (wpAny_truthy_bool ⟨rfl, ρ1, G1, R1⟩))
theorem isin_core {neg : Bool} {op : CmpOp} {a : E} {b : Es} {i : Int} {l : List Int} {σ1 : St} {vs : List AV} {x : Expr} {es : List Expr} {k : Nat} {q : Pos} {env : Env} {η : En} {ρ : List Addr} {s : Shared} {Q : Value → Shared → Prop}
    (ha : EvOK cl B O nm A a) (hb : EsOK cl B O nm A b) (h1 : (op == if neg then .NotIn else .In) = true) (h2 : chk nm env.scope a x = true) (h3 : chks nm env.scope b es = true)
    (e1 : ev O B.ns prices a η σ = some (.int i, σ1)) (e2 : evs O B.ns prices b η σ1 = some (vs, σ')) (e3 : intsOf vs = some l) (R : Rel B ρ σ s) (F : Frm B env nm η ρ s.heap) (hz : vs.length ≤ lineOf)
    (hQ : ∀ s', (∃ ρ', Goes Non ρ s.heap ρ' s'.heap ∧ Rel B ρ' σ' s') → Q (.bool (neg != l.contains i)) s') :
    Wp cl B A (eval x env) (fun X s₁ => Wp cl B A (eval (.Tuple es k q) env) (fun Y s₂ => Wp cl B A (compareOp op X Y) Q s₂) s₁) s := by
  refine Wp.pv (ha _ _ _ _ _ _ _ _ h2 e1 R F) fun X s1 ρ1 G1 R1 m1 => ?_
  obtain ⟨t, rfl⟩ := m1
  refine wpAny_Tuple (Wp.pvs (hb _ _ _ _ _ _ _ _ _ h3 e2 R1 (F.go G1)) fun Vs s2 ρ2 G2 R2 m2 => ⟨by rw [← m2.length]; exact lineOf_size hz, ?_⟩)
  have hi := m2.ints e3
  have ht : IsTup (s2.heap.push { cls := .type "tuple", data := .seq Vs.toArray }) s2.heap.objs.size Vs.toArray := ⟨_, Heap.get?_push_size _ rfl, rfl, _, rfl⟩
  have fin : ∃ ρ', Goes Non ρ s.heap ρ' (s2.heap.push { cls := .type "tuple", data := .seq Vs.toArray }) ∧ Rel B ρ' σ' { s2 with heap := s2.heap.push { cls := .type "tuple", data := .seq Vs.toArray } } :=
    ⟨ρ2, (G1.trans G2).trans (goes_keeps (fun b o e => Heap.get?_push_of_some _ e)), R2.still (fun b o e => Heap.get?_push_of_some _ e) rfl rfl⟩
  have hq := hQ { s2 with heap := s2.heap.push { cls := .type "tuple", data := .seq Vs.toArray } } fin
  cases neg
  · obtain rfl := beq_iff_eq.mp h1
    exact leaf (in_tuple_ints ht hi (by rw [contains_any]; simpa using hq))
  · obtain rfl := beq_iff_eq.mp h1
    exact leaf (notin_tuple_ints ht hi (by rw [contains_any]; simpa using hq))
theorem evs_len {O : Orc} {N pr : List Int} {η : En} : ∀ {es : Es} {σ σ' : St} {vs : List AV} {sc : Scope} {xs : List Expr}, chks nm sc es xs = true → evs O N pr es η σ = some (vs, σ') → vs.length = xs.length
  | .nil, σ, σ', vs, sc, xs, h, e => by rw [chks_nil h]; cases e; rfl
  | .cons a r, σ, σ', vs, sc, xs, h, e => by
    refine Classical.byContradiction fun hG0 => ?_
    obtain ⟨x, ys, rfl, _, h⟩ := chks_cons h
    refine hG0 ?_
    refine bindE e fun x' σ1 e1 e => ?_
    refine mapE e fun y σ2 e2 e3 => ?_
    cases e3
    simp only [List.length_cons]
    rw [evs_len (Bool.and_eq_true_iff.mp h).2 e2]
theorem isin_split {neg : Bool} {a : E} {b : Es} (e : ev O B.ns prices (.isin neg a b) η σ = some (v, σ')) : ∃ i l σ1 vs, ev O B.ns prices a η σ = some (.int i, σ1) ∧ evs O B.ns prices b η σ1 = some (vs, σ') ∧ intsOf vs = some l ∧ vs.length ≤ 100 ∧ v = .bool (neg != l.contains i) := by
  refine bindE e fun x σ1 e1 e => ?_
  refine bindE e fun y σ2 e2 e => ?_
  dsimp only at e
  generalize hq : intsOf y = w at e
  cases x <;> cases w <;> first | (exact nn e) | skip
  dsimp only at e
  split at e
  · first | exact nn e | cases e
    exact ⟨_, _, _, _, e1, e2, hq, ‹_›, rfl⟩
  · first | exact nn e | cases e
theorem ok_isin {neg : Bool} {a : E} {b : Es} (ha : EvOK cl B O nm A a) (hb : EsOK cl B O nm A b) : EvOK cl B O nm A (.isin neg a b) := fun ast env η σ v σ' ρ s hc e R F => by
  refine chz_isin hc fun l op es k q p h => ?_
  simp only [Bool.and_eq_true] at h
  obtain ⟨i, l', σ1, vs, e1, e2, e3, e4, rfl⟩ := isin_split e
  refine wpAny_Compare1 (isin_core ha hb h.1.1 h.1.2 h.2 e1 e2 e3 R F (Nat.le_trans e4 (by decide)) fun s' ⟨ρ', G, R'⟩ => ⟨ρ', G, R', rfl⟩) ?_
  cases op <;> rfl
theorem ts_isin {neg : Bool} {a : E} {b : Es} (ha : EvOK cl B O nm A a) (hb : EsOK cl B O nm A b) : TsOK cl B O nm A (.isin neg a b) := fun ast env η σ v σ' ρ s hc e R F => by
  refine chz_isin hc fun l op es k q p h => ?_
  simp only [Bool.and_eq_true] at h
  obtain ⟨i, l', σ1, vs, e1, e2, e3, e4, e5⟩ := isin_split e
  cases e5
  refine wpAny_isTrue_Compare1 (isin_core ha hb h.1.1 h.1.2 h.2 e1 e2 e3 R F (Nat.le_trans e4 (by decide)) fun s' z => wpAny_truthy_bool ⟨rfl, z⟩) ?_
  cases op <;> rfl
theorem inl_split {a b : E} (e : ev O B.ns prices (.inl a b) η σ = some (v, σ')) : ∃ i l σ1 n, ev O B.ns prices a η σ = some (.int i, σ1) ∧ ev O B.ns prices b η σ1 = some (.lab n, σ') ∧ σ'[n]? = some (.list l) ∧ v = .bool (l.contains i) := by
  refine bindE e fun x σ1 e1 e => ?_
  refine bindE e fun y σ2 e2 e => ?_
  dsimp only at e
  split at e
  · split at e
    · first | exact nn e | cases e
      exact ⟨_, _, _, _, e1, e2, ‹_›, rfl⟩
    · first | exact nn e | cases e
  · first | exact nn e | cases e
theorem inl_core {a b : E} {i : Int} {l : List Int} {σ1 : St} {n : Nat} {x y : Expr} {env : Env} {η : En} {ρ : List Addr} {s : Shared} {Q : Value → Shared → Prop}
    (ha : EvOK cl B O nm A a) (hb : EvOK cl B O nm A b) (h2 : chk nm env.scope a x = true) (h3 : chk nm env.scope b y = true)
    (e1 : ev O B.ns prices a η σ = some (.int i, σ1)) (e2 : ev O B.ns prices b η σ1 = some (.lab n, σ')) (e3 : σ'[n]? = some (.list l)) (R : Rel B ρ σ s) (F : Frm B env nm η ρ s.heap)
    (hQ : ∀ s', (∃ ρ', Goes Non ρ s.heap ρ' s'.heap ∧ Rel B ρ' σ' s') → Q (.bool (l.contains i)) s') :
    Wp cl B A (eval x env) (fun X s₁ => Wp cl B A (eval y env) (fun Y s₂ => Wp cl B A (compareOp .In X Y) Q s₂) s₁) s := by
  refine Wp.pv (ha _ _ _ _ _ _ _ _ h2 e1 R F) fun X s1 ρ1 G1 R1 m1 => ?_
  obtain ⟨t, rfl⟩ := m1
  refine Wp.pv (hb _ _ _ _ _ _ _ _ h3 e2 R1 (F.go G1)) fun Y s2 ρ2 G2 R2 m2 => ?_
  obtain ⟨a', q, rfl⟩ := m2
  exact leaf (inl_ok R2 q e3 (hQ _ ⟨ρ2, G1.trans G2, R2⟩))
theorem ok_inl {a b : E} (ha : EvOK cl B O nm A a) (hb : EvOK cl B O nm A b) : EvOK cl B O nm A (.inl a b) := fun ast env η σ v σ' ρ s hc e R F => by
  refine chz_inl hc fun l x y q p h => ?_
  refine Classical.byContradiction fun hG0 => ?_
  simp only [Bool.and_eq_true] at h
  obtain ⟨i, l', σ1, n, e1, e2, e3, rfl⟩ := inl_split e
  refine hG0 ?_
  exact wpAny_Compare1 (inl_core ha hb h.1 h.2 e1 e2 e3 R F fun s' ⟨ρ', G, R'⟩ => ⟨ρ', G, R', rfl⟩) rfl
theorem ts_inl {a b : E} (ha : EvOK cl B O nm A a) (hb : EvOK cl B O nm A b) : TsOK cl B O nm A (.inl a b) := fun ast env η σ v σ' ρ s hc e R F => by
  refine chz_inl hc fun l x y q p h => ?_
  refine Classical.byContradiction fun hG0 => ?_
  simp only [Bool.and_eq_true] at h
  obtain ⟨i, l', σ1, n, e1, e2, e3, e4⟩ := inl_split e
  refine hG0 ?_
  cases e4
  exact wpAny_isTrue_Compare1 (inl_core ha hb h.1 h.2 e1 e2 e3 R F fun s' z => wpAny_truthy_bool ⟨rfl, z⟩) rfl
theorem ok_ite {c a b : E} (hc' : TsOK cl B O nm A c) (ha : EvOK cl B O nm A a) (hb : EvOK cl B O nm A b) : EvOK cl B O nm A (.ite c a b) := fun ast env η σ v σ' ρ s hc e R F => by
  refine chz_ite hc fun t x y p h => ?_
  simp only [Bool.and_eq_true] at h
  refine bindE e fun x' σ1 e1 e => ?_
  dsimp only at e
  split at e
  · refine wpAny_IfExp (Wp.mono (hc' _ _ _ _ _ _ _ _ h.1.1 e1 R F) fun b s1 ⟨q, ρ1, G1, R1⟩ => ?_)
    subst q
    exact Wp.mono (ha _ _ _ _ _ _ _ _ h.1.2 e R1 (F.go G1)) fun V s2 h2 => h2.after G1
  · refine wpAny_IfExp (Wp.mono (hc' _ _ _ _ _ _ _ _ h.1.1 e1 R F) fun b s1 ⟨q, ρ1, G1, R1⟩ => ?_)
    subst q
    exact Wp.mono (hb _ _ _ _ _ _ _ _ h.2 e R1 (F.go G1)) fun V s2 h2 => h2.after G1
  · first | exact nn e | cases e
/-! lists of expressions -/
theorem es_nil : EsOK cl B O nm A .nil := fun xs env η σ vs σ' ρ s pos hc e R F => by
  rw [chks_nil hc]
  cases e
  exact args_nil ⟨ρ, .refl, R, .nil⟩
theorem es_cons {a : E} {r : Es} (ha : EvOK cl B O nm A a) (hb : EsOK cl B O nm A r) : EsOK cl B O nm A (.cons a r) := fun xs env η σ vs σ' ρ s pos hc e R F => by
  obtain ⟨x, ys, rfl, hs, h⟩ := chks_cons hc
  simp only [Bool.and_eq_true] at h
  refine bindE e fun x' σ1 e1 e => ?_
  refine mapE e fun y σ2 e2 e3 => ?_
  cases e3
  refine args_cons (Wp.pv (ha _ _ _ _ _ _ _ _ h.1 e1 R F) fun X s1 ρ1 G1 R1 m1 => ?_) (hs _)
  exact Wp.pvs (hb _ _ _ _ _ _ _ _ _ h.2 e2 R1 (F.go G1)) fun Vs s2 ρ2 G2 R2 m2 => ⟨ρ2, G1.trans G2, R2, .cons (m1.pre G2.pre) m2⟩
theorem ok_list {es : Es} (ha : EsOK cl B O nm A es) : EvOK cl B O nm A (.list es) := fun ast env η σ v σ' ρ s hc e R F => by
  refine chz_list hc fun xs p h => ?_
  refine bindE e fun x' σ1 e1 e => ?_
  refine bindE1 e fun l e2 e => ?_
  refine Classical.byContradiction fun hG0 => ?_
  obtain ⟨hz, rfl, rfl⟩ := newL_some e
  refine hG0 ?_
  refine wpAny_List (Wp.pvs (ha _ _ _ _ _ _ _ _ _ h e1 R F) fun Vs s1 ρ1 G1 R1 m1 => ?_)
  have hi := m1.ints e2
  refine ⟨by rw [hi.length]; exact lineOf_size hz, ?_⟩
  exact (PV.newList (s' := { s1 with heap := s1.heap.push { cls := .type "list", data := .seq Vs.toArray } }) (vs := Vs) (ep := 0) R1 (fun b o e => Heap.get?_push_of_some _ e) rfl rfl (get_size _) (Heap.get?_push_size _ rfl) hi).after G1
end
end Tk

namespace Tk
open PySem PySem.W PyProof.Rows PySem.Calls

noncomputable def CsOK (cl : Bool) (B : Bs) (O : Orc) (nm : List Str) (A : Around) (c : Cs) : Prop := ∀ ops xs env η σ x X v σ' ρ s pos, chkc nm env.scope c ops xs = true → evc O B.ns prices c x η σ = some (v, σ') → Rel B ρ σ s → Frm B env nm η ρ s.heap → VM B ρ x X →
  Wp cl B A (compareChain pos X ops (markedEach ops xs (evalEach xs env))) (PV B ρ s σ' v) s ∧ ∀ b, v = .bool b → Wp cl B A (testChain pos X ops (markedEach ops xs (evalEach xs env))) (PB B ρ s σ' b) s
noncomputable def BsOK (cl : Bool) (B : Bs) (O : Orc) (nm : List Str) (A : Around) (k : Bool) (es : Es) : Prop := ∀ xs env η σ v σ' ρ s pos, chks nm env.scope es xs = true → evb O B.ns prices k es η σ = some (v, σ') → Rel B ρ σ s → Frm B env nm η ρ s.heap →
  (xs ≠ [] → Wp cl B A (boolOp pos (if k then .And else .Or) (evalEach xs env)) (PV B ρ s σ' v) s)
noncomputable def BtOK (cl : Bool) (B : Bs) (O : Orc) (nm : List Str) (A : Around) (k : Bool) (es : Es) : Prop := ∀ xs env η σ b σ' ρ s, chks nm env.scope es xs = true → evb O B.ns prices k es η σ = some (.bool b, σ') → Rel B ρ σ s → Frm B env nm η ρ s.heap →
  Wp cl B A (allTrue (if k then .And else .Or) xs env) (PB B ρ s σ' b) s
section
variable {cl : Bool} {B : Bs} {O : Orc} {nm : List Str} {A : Around} {env : Env} {η : En} {σ σ' σ₁ : St} {ρ ρ' : List Addr} {s s' : Shared} {v : AV} {V : Value}

theorem coIs_marks {o : Co} {op : CmpOp} (h : coIs o op = true) (x : Expr) : behindInMarks op x = false := by
  have h1 : (op == .In || op == .NotIn) = false := by cases o <;> cases op <;> first | rfl | (exact absurd h Bool.false_ne_true)
  clear h
  cases x with
  | Set l k p =>
    show (k == 0 && (op == .In || op == .NotIn) && _) = false
    rw [h1, Bool.and_false, Bool.false_and]
  | _ => rfl
theorem cs_one (hr : Room A 0) {o : Co} {a : E} (ha : EvOK cl B O nm A a) : CsOK cl B O nm A (.one o a) := fun ops xs env η σ x X v σ' ρ s pos hc e R F m => by
  obtain ⟨op, y, rfl, rfl, h⟩ := chkc_one hc
  simp only [Bool.and_eq_true] at h
  refine bindE e fun y' σ1 e1 e => ?_
  refine mapE1 e fun c e2 e3 => ?_
  cases e3
  have hm : markedEach [op] [y] (evalEach [y] env) = [eval y env] := by
    show [markedBehindIn op y (eval y env)] = _
    rw [markedBehindIn_of_false (coIs_marks h.1 y)]
  rw [hm]
  refine ⟨?_, fun b hb => ?_⟩
  · show Wp cl B A (do let rv ← holding [X] (eval y env); standAt pos; operate [X, rv] (compareOp op X rv)) _ _
    refine wpAny_bind (wpAny_holding (Wp.pv (ha _ _ _ _ _ _ _ _ h.2 e1 R F) fun Y s1 ρ1 G1 R1 m1 => wpAny_bind (wpAny_standAt (wpAny_operating ?_))))
    exact leaf (cmpv_ok hr h.1 e2 R1 (m.pre G1.pre) m1 ((PV.now R1 (v := .bool _) rfl).after G1))
  · cases hb
    show Wp cl B A (do let rv ← holding [X] (eval y env); standAt pos; let c ← operate [X, rv] (compareOp op X rv); holding [c] (truthy c)) _ _
    refine wpAny_bind (wpAny_holding (Wp.pv (ha _ _ _ _ _ _ _ _ h.2 e1 R F) fun Y s1 ρ1 G1 R1 m1 => wpAny_bind (wpAny_standAt (wpAny_bind (wpAny_operating ?_)))))
    exact leaf (cmpv_ok hr h.1 e2 R1 (m.pre G1.pre) m1 (wpAny_holding (wpAny_truthy_bool ⟨rfl, ρ1, G1, R1⟩)))
theorem cs_more (hr : Room A 0) {o : Co} {a : E} {r : Cs} (ha : EvOK cl B O nm A a) (hs : CsOK cl B O nm A r) : CsOK cl B O nm A (.more o a r) := fun ops xs env η σ x X v σ' ρ s pos hc e R F m => by
  obtain ⟨op, ops', y, xs', rfl, rfl, h⟩ := chkc_more hc
  refine B5 h fun h1 h2 h3 h4 h5 => ?_
  refine bindE e fun y' σ1 e1 e => ?_
  refine bindE1 e fun c e2 e => ?_
  cases ops' with
  | nil => cases h4
  | cons op2 ops' =>
  cases xs' with
  | nil => cases h5
  | cons z xs' =>
  have hm : markedEach (op :: op2 :: ops') (y :: z :: xs') (evalEach (y :: z :: xs') env) = eval y env :: markedEach (op2 :: ops') (z :: xs') (evalEach (z :: xs') env) := rfl
  rw [hm]
  generalize ht : markedEach (op2 :: ops') (z :: xs') (evalEach (z :: xs') env) = ts
  have hc2 : compareChain pos X (op :: op2 :: ops') (eval y env :: ts) = (do
    let rv ← holding [X] (eval y env)
    standAt pos
    let c ← holding [X, rv] (compareOp op X rv)
    release [X, rv] [c]
    if ← holding [c, rv] (truthy c) then compareChain pos rv (op2 :: ops') ts else pure c) := by
    cases ts <;> rfl
  have hc3 : testChain pos X (op :: op2 :: ops') (eval y env :: ts) = (do
    let rv ← holding [X] (eval y env)
    standAt pos
    let c ← holding [X, rv] (compareOp op X rv)
    release [X, rv] [c]
    if ← holding [c, rv] (truthy c) then testChain pos rv (op2 :: ops') ts else pure false) := by
    cases ts <;> rfl
  rw [hc2, hc3]
  refine ⟨?_, fun b hb => ?_⟩
  · refine wpAny_bind (wpAny_holding (Wp.pv (ha _ _ _ _ _ _ _ _ h2 e1 R F) fun Y s1 ρ1 G1 R1 m1 => wpAny_bind (wpAny_standAt (wpAny_bind (wpAny_holding ?_)))))
    refine leaf (cmpv_ok hr h1 e2 R1 (m.pre G1.pre) m1 (wpAny_bind (wpAny_release (wpAny_bind (wpAny_holding (wpAny_truthy_bool ?_))))))
    cases c
    · cases e; exact wpAny_pure ((PV.now R1 (v := .bool _) rfl).after G1)
    · have := (hs _ _ _ _ _ _ _ _ _ _ _ pos h3 e R1 (F.go G1) m1).1
      rw [ht] at this
      exact Wp.mono this fun V s2 h2 => h2.after G1
  · cases hb
    refine wpAny_bind (wpAny_holding (Wp.pv (ha _ _ _ _ _ _ _ _ h2 e1 R F) fun Y s1 ρ1 G1 R1 m1 => wpAny_bind (wpAny_standAt (wpAny_bind (wpAny_holding ?_)))))
    refine leaf (cmpv_ok hr h1 e2 R1 (m.pre G1.pre) m1 (wpAny_bind (wpAny_release (wpAny_bind (wpAny_holding (wpAny_truthy_bool ?_))))))
    cases c
    · cases e; exact wpAny_pure ⟨rfl, ρ1, G1, R1⟩
    · have := (hs _ _ _ _ _ _ _ _ _ _ _ pos h3 e R1 (F.go G1) m1).2 _ rfl
      rw [ht] at this
      exact Wp.mono this fun V s2 h2 => h2.after G1
theorem ok_chain {a : E} {c : Cs} (ha : EvOK cl B O nm A a) (hs : CsOK cl B O nm A c) : EvOK cl B O nm A (.chain a c) := fun ast env η σ v σ' ρ s hc e R F => by
  refine chz_chain hc fun l ops rs p h => ?_
  simp only [Bool.and_eq_true] at h
  refine bindE e fun x σ1 e1 e => ?_
  rw [arm_eval_Compare]
  refine wpAny_bind (Wp.pv (ha _ _ _ _ _ _ _ _ h.1 e1 R F) fun X s1 ρ1 G1 R1 m1 => ?_)
  exact Wp.mono (hs _ _ _ _ _ _ _ _ _ _ _ p h.2 e R1 (F.go G1) m1).1 fun V s2 h2 => h2.after G1
theorem ts_chain {a : E} {c : Cs} (ha : EvOK cl B O nm A a) (hs : CsOK cl B O nm A c) : TsOK cl B O nm A (.chain a c) := fun ast env η σ b σ' ρ s hc e R F => by
  refine chz_chain hc fun l ops rs p h => ?_
  simp only [Bool.and_eq_true] at h
  refine bindE e fun x σ1 e1 e => ?_
  rw [arm_isTrue_Compare]
  refine wpAny_bind (Wp.pv (ha _ _ _ _ _ _ _ _ h.1 e1 R F) fun X s1 ρ1 G1 R1 m1 => ?_)
  exact Wp.mono ((hs _ _ _ _ _ _ _ _ _ _ _ p h.2 e R1 (F.go G1) m1).2 _ rfl) fun V s2 h2 => h2.after G1

/-! and, or -/
theorem bs_nil {k : Bool} : BsOK cl B O nm A k .nil := fun xs env η σ v σ' ρ s pos hc e R F hn => absurd (chks_nil hc) hn
theorem bs_cons {k : Bool} {a : E} {r : Es} (ha : EvOK cl B O nm A a) (hs : BsOK cl B O nm A k r) : BsOK cl B O nm A k (.cons a r) := fun xs env η σ v σ' ρ s pos hc e R F _ => by
  obtain ⟨x, ys, rfl, _, h⟩ := chks_cons hc
  simp only [Bool.and_eq_true] at h
  refine bindE e fun x' σ1 e1 e => ?_
  cases x' <;> first | (exact nn e) | skip
  rename_i b
  dsimp only at e
  show Wp cl B A (boolOp pos _ (eval x env :: evalEach ys env)) _ _
  cases ys with
  | nil =>
    show Wp cl B A (eval x env) _ _
    cases r with
    | cons a' r' => exact absurd h.2 Bool.false_ne_true
    | nil =>
      refine Wp.mono (ha _ _ _ _ _ _ _ _ h.1 e1 R F) fun V s1 h1 => ?_
      by_cases hb : b = k
      · rw [if_pos hb] at e; cases e; subst hb; exact h1
      · rw [if_neg hb] at e; cases e; exact h1
  | cons y ys =>
    have step : boolOp pos (if k then .And else .Or) (eval x env :: evalEach (y :: ys) env) = (do
        let v ← eval x env
        standAt pos
        let t ← holding [v] (truthy v)
        match (if k then BoolOp.And else BoolOp.Or), t with
        | .And, false | .Or, true => pure v
        | _, _ => boolOp pos (if k then .And else .Or) (evalEach (y :: ys) env)) := rfl
    rw [step]
    refine wpAny_bind (Wp.pv (ha _ _ _ _ _ _ _ _ h.1 e1 R F) fun X s1 ρ1 G1 R1 m1 => wpAny_bind (wpAny_standAt (wpAny_bind (wpAny_holding ?_))))
    cases m1
    refine wpAny_truthy_bool ?_
    by_cases hb : b = k
    · rw [if_pos hb] at e
      subst hb
      have := hs _ _ _ _ _ _ _ _ pos h.2 e R1 (F.go G1) (List.cons_ne_nil _ _)
      cases b <;> exact Wp.mono this fun V s2 h2 => h2.after G1
    · rw [if_neg hb] at e
      cases e
      cases b <;> cases k <;> first | (exact absurd rfl hb) | exact wpAny_pure ((PV.now R1 (v := .bool _) rfl).after G1)
theorem bt_nil {k : Bool} : BtOK cl B O nm A k .nil := fun xs env η σ b σ' ρ s hc e R F => by
  rw [chks_nil hc]
  cases e
  cases k
  · exact wpAny_allTrue_Or_nil ⟨rfl, ρ, .refl, R⟩
  · exact wpAny_allTrue_And_nil ⟨rfl, ρ, .refl, R⟩
theorem bt_cons {k : Bool} {a : E} {r : Es} (ha : TsOK cl B O nm A a) (hs : BtOK cl B O nm A k r) : BtOK cl B O nm A k (.cons a r) := fun xs env η σ b σ' ρ s hc e R F => by
  obtain ⟨x, ys, rfl, _, h⟩ := chks_cons hc
  simp only [Bool.and_eq_true] at h
  refine bindE e fun x' σ1 e1 e => ?_
  cases x' <;> first | (exact nn e) | skip
  rename_i b'
  dsimp only at e
  cases k
  · refine wpAny_allTrue_Or_cons (Wp.mono (ha _ _ _ _ _ _ _ _ h.1 e1 R F) fun c s1 ⟨q, ρ1, G1, R1⟩ => ?_)
    subst q
    cases c
    · exact Wp.mono (hs _ _ _ _ _ _ _ _ h.2 e R1 (F.go G1)) fun V s2 h2 => h2.after G1
    · cases e; exact ⟨rfl, ρ1, G1, R1⟩
  · refine wpAny_allTrue_And_cons (Wp.mono (ha _ _ _ _ _ _ _ _ h.1 e1 R F) fun c s1 ⟨q, ρ1, G1, R1⟩ => ?_)
    subst q
    cases c
    · cases e; exact ⟨rfl, ρ1, G1, R1⟩
    · exact Wp.mono (hs _ _ _ _ _ _ _ _ h.2 e R1 (F.go G1)) fun V s2 h2 => h2.after G1
theorem not_empty {α : Type} {l : List α} (h : (!isEmptyL l) = true) : l ≠ [] := by cases l <;> simp_all [isEmptyL]
theorem ok_and {es : Es} (hs : BsOK cl B O nm A true es) : EvOK cl B O nm A (.and es) := fun ast env η σ v σ' ρ s hc e R F => by
  refine chz_and hc fun vs p h => ?_
  simp only [Bool.and_eq_true] at h
  rw [arm_eval_BoolOp]
  exact hs _ _ _ _ _ _ _ _ p h.1 e R F (not_empty h.2)
theorem ok_or {es : Es} (hs : BsOK cl B O nm A false es) : EvOK cl B O nm A (.or es) := fun ast env η σ v σ' ρ s hc e R F => by
  refine chz_or hc fun vs p h => ?_
  simp only [Bool.and_eq_true] at h
  rw [arm_eval_BoolOp]
  exact hs _ _ _ _ _ _ _ _ p h.1 e R F (not_empty h.2)
theorem ts_and {es : Es} (hs : BtOK cl B O nm A true es) : TsOK cl B O nm A (.and es) := fun ast env η σ v σ' ρ s hc e R F => by
  refine chz_and hc fun vs p h => ?_
  simp only [Bool.and_eq_true] at h
  exact wpAny_isTrue_BoolOp (hs _ _ _ _ _ _ _ _ h.1 e R F)
theorem ts_or {es : Es} (hs : BtOK cl B O nm A false es) : TsOK cl B O nm A (.or es) := fun ast env η σ v σ' ρ s hc e R F => by
  refine chz_or hc fun vs p h => ?_
  simp only [Bool.and_eq_true] at h
  exact wpAny_isTrue_BoolOp (hs _ _ _ _ _ _ _ _ h.1 e R F)

/-! subscripts -/
theorem eval_sub_eq {value slice : Expr} {pos : Pos} {P : Value → Shared → Prop} {Q : Value → Shared → Prop} (h : Wp cl B A (eval value env) P s)
    (k : ∀ X s1, P X s1 → Wp cl B A (eval slice env) (fun I s2 => Wp cl B A (do let r ← subscripted slice (← getitemInPython X) X I; letTemporaryGo value X r; pure r) Q s2) s1) : Wp cl B A (eval (.Subscript value slice pos) env) Q s := by
  rw [arm_eval_Subscript]
  exact wpAny_bind (Wp.mono h fun X s1 p => wpAny_bind (wpAny_holding (Wp.mono (k X s1 p) fun I s2 q => wpAny_bind (wpAny_standAt q))))
theorem sub_tail {value slice : Expr} {X I : Value} {T id : String} {ops : List Value} {Q : Value → Shared → Prop} (hT : s.TypeIs X T) (hl : typeLookup (.type T) "__getitem__" = pure (some (.builtin id)))
    (hs : subscripted slice false X I = operate ops (getItem X I)) (h : Wp cl B A (getItem X I) Q s) : Wp cl B A (do let r ← subscripted slice (← getitemInPython X) X I; letTemporaryGo value X r; pure r) Q s := by
  refine wpAny_bind ?_
  rw [getitemInPython_of_ne hT.not_modules]
  refine wpAny_bind (leaf (wpAny_specialOf hT hl ?_))
  refine wpAny_pure (wpAny_bind ?_)
  rw [hs]
  exact wpAny_operating (Wp.mono h fun r s3 h3 => wpAny_bind (wpAny_letTemporaryGo (wpAny_pure h3)))
theorem subscripted_plain {slice : Expr} (hn : ∀ lo hi st q, slice ≠ .Slice lo hi st q) (o i : Value) : subscripted slice false o i = operate [o, i] (getItem o i) := by
  cases slice <;> first | rfl | (exact absurd rfl (hn _ _ _ _))
end
end Tk

namespace Tk
open PySem PySem.W PyProof.Rows PySem.Calls
section
variable {cl : Bool} {B : Bs} {O : Orc} {nm : List Str} {A : Around} {env : Env} {η : En} {σ σ' σ₁ : St} {ρ ρ' : List Addr} {s s' : Shared} {v : AV} {V : Value}

theorem accOf_ints : ∀ (l : List Int) (t : Nat), IntsAre (accOf l t) l
  | [], t => .nil
  | x :: r, t => .cons x t (accOf_ints r (t + 72))
theorem prices_at (K : B.Ok) (R : Rel B ρ σ s) : s.heap.IsList 304 (accOf prices 683).toArray := by
  have h := (R.gr K).at (a := 304) (o := o304 128) 78 rfl
  have e : prices.take 128 = prices := by decide +kernel
  unfold o304 at h
  rw [e] at h
  exact ⟨_, h, rfl, _, rfl⟩
theorem item_at {a : Addr} {vs : List Value} {xs : List Int} {i : Int} {t : Tok} {c : Int} (R : Rel B ρ σ s) (ia : s.heap.IsList a vs.toArray) (ja : IntsAre vs xs) (e : itemAt xs i = some c) :
    WpA B A (getItem (.ref a) (.int i t)) (PV B ρ s σ (.int c)) s := by
  unfold itemAt at e
  split at e
  · first | exact nn e | cases e
  · rename_i hz
    have hl : xs.length ≤ 1048576 := by unfold lineOf at hz; (first | lia | omega)
    split at e
    · rename_i h0
      obtain ⟨u, hu⟩ := ja.get _ _ e
      have := (List.getElem?_eq_some_iff.mp e).1
      exact wpAny_getItem_list ia h0 (by (first | lia | omega)) (by simpa using hu) (PV.now R (v := .int c) ⟨u, rfl⟩)
    · split at e
      · rename_i h0 h1
        obtain ⟨u, hu⟩ := ja.get _ _ e
        have hn : vs.toArray.size = xs.length := by rw [List.size_toArray, ja.length]
        refine wpAny_getItem_list_neg ia (by (first | lia | omega)) (by rw [hn]; (first | lia | omega)) (by (first | lia | omega)) ?_ (PV.now R (v := .int c) ⟨u, rfl⟩)
        rw [hn]; simpa using hu
      · first | exact nn e | cases e
theorem subv_ok {x y : AV} {X Y : Value} (K : B.Ok) (e : subv prices x y σ = some (v, σ')) (R : Rel B ρ σ s) (hx : VM B ρ x X) (hy : VM B ρ y Y) : ∃ T id, s.TypeIs X T ∧ typeLookup (.type T) "__getitem__" = pure (some (.builtin id)) ∧ WpA B A (getItem X Y) (PV B ρ s σ' v) s := by
  unfold subv at e
  split at e
  · split at e
    · rename_i h1
      refine mapE1 e fun c e1 e2 => ?_
      cases e2
      obtain ⟨a, ha, rfl⟩ := hx
      obtain ⟨t, rfl⟩ := hy
      obtain ⟨vs, ep, ia, ja⟩ := R.list_at ha h1
      exact ⟨"list", _, ia.isList.typeIs, list_getitem_lookup, item_at R ia.isList ja e1⟩
    · first | exact nn e | cases e
  · split at e
    · rename_i h0
      refine mapE1 e fun c e1 e2 => ?_
      cases e2
      obtain ⟨b, t, rfl, hb⟩ := hx
      obtain ⟨u, rfl⟩ := hy
      obtain ⟨bl⟩ := b
      refine ⟨"bytes", _, typeIs_bytes _ _ _, FB.slot_bytes_getitem.lookup, ?_⟩
      have hi := (List.getElem?_eq_some_iff.mp e1).1
      have hz := h0.2
      have hlen : bl.length = (bytesInts ⟨bl⟩).length := by simp [bytesInts]
      rw [hb] at hlen
      unfold lineOf at hz
      refine getItem_bytes (by (first | lia | omega)) h0.1 (by (first | lia | omega)) ?_
      subst hb
      unfold bytesInts at e1
      rw [List.getElem?_map] at e1
      refine mapE1 e1 fun w q1 q2 => ?_
      rw [List.getD_eq_getElem?_getD, q1]
      exact (PV.now R (v := .int c) ⟨_, by rw [← q2]; rfl⟩).tok
    · first | exact nn e | cases e
  · split at e
    · rename_i h0
      refine mapE1 e fun c e1 e2 => ?_
      cases e2
      cases hx
      obtain ⟨u, rfl⟩ := hy
      refine ⟨"list", _, (prices_at K R).typeIs, list_getitem_lookup, item_at R (prices_at K R) (accOf_ints _ _) ?_⟩
      unfold itemAt
      rw [if_neg (by decide +kernel), if_pos h0]; exact e1
    · first | exact nn e | cases e
  · first | exact nn e | cases e
theorem ok_sub (K : B.Ok) {a b : E} (ha : EvOK cl B O nm A a) (hb : EvOK cl B O nm A b) : EvOK cl B O nm A (.sub a b) := fun ast env η σ v σ' ρ s hc e R F => by
  obtain ⟨x, y, p, rfl, hn, h⟩ := chk_sub hc
  simp only [Bool.and_eq_true] at h
  refine bindE e fun x' σ1 e1 e => ?_
  refine bindE e fun y' σ2 e2 e => ?_
  refine eval_sub_eq (ha _ _ _ _ _ _ _ _ h.1 e1 R F) fun X s1 ⟨ρ1, G1, R1, m1⟩ => ?_
  refine Wp.pv (hb _ _ _ _ _ _ _ _ h.2 e2 R1 (F.go G1)) fun Y s2 ρ2 G2 R2 m2 => ?_
  obtain ⟨T, id, hT, hl, hw⟩ := subv_ok (A := A) K e R2 (m1.pre G2.pre) m2
  exact sub_tail hT hl (subscripted_plain hn _ _) (Wp.mono (leaf hw) fun V s3 h3 => h3.after (G1.trans G2))

/-! slices -/
theorem cutv_some {x : AV} {f : List Int → List Int} (e : cutv B.ns x σ f = some (v, σ')) : ∃ xs, listOf B.ns x σ = some xs ∧ xs.length ≤ lineOf ∧ (f xs).length ≤ lineOf ∧ v = .lab σ.length ∧ σ' = σ ++ [.list (f xs)] := by
  refine bindE1 e fun xs e1 e => ?_
  split at e
  · refine Classical.byContradiction fun hG0 => ?_
    obtain ⟨a, b, c⟩ := newL_some e
    refine hG0 ?_
    exact ⟨xs, e1, ‹_›, a, b, c⟩
  · first | exact nn e | cases e
theorem slice_tail {x : AV} {X vl vu vt : Value} {lo hi st : Option Int} {value slice : Expr} {f : List Int → List Int} {ops : List Value} (K : B.Ok) (R : Rel B ρ σ s) (hx : VM B ρ x X) (e : cutv B.ns x σ f = some (v, σ'))
    (pl : IsPart vl lo) (pu : IsPart vu hi) (pt : IsPart vt st) (h0 : st ≠ some 0) (hz : ∀ (vs : List Value) (xs : List Int), IntsAre vs xs → IntsAre (slicePick vs.toArray lo hi st).toList (f xs))
    (hs : ∀ (o i : Value), subscripted slice false o i = operate (ops.map fun w => if w = .none then i else o) (getItem o i)) :
    Wp cl B A (do let r ← subscripted slice (← getitemInPython X) X (.ref s.heap.objs.size); letTemporaryGo value X r; pure r) (PV B ρ s σ' v) { s with heap := s.heap.push { cls := .type "slice", data := .fields #[vl, vu, vt] } } := by
  refine Classical.byContradiction fun hG0 => ?_
  obtain ⟨xs, e1, e2, e3, rfl, rfl⟩ := cutv_some e
  obtain ⟨a, vs, rfl, ia, ja⟩ := listOf_at K R hx e1
  refine hG0 ?_
  have R' : Rel B ρ σ { s with heap := s.heap.push { cls := .type "slice", data := .fields #[vl, vu, vt] } } := R.still (fun b o e => Heap.get?_push_of_some _ e) rfl rfl
  refine sub_tail (Heap.IsList.typeIs (s := { s with heap := s.heap.push _ }) (ia.push _)) list_getitem_lookup (hs _ _) ?_
  refine Wp.mono (leaf (slice_ok (vl := vl) (vu := vu) (vt := vt) R' (ia.push _) ja ⟨_, Heap.get?_push_size _ rfl, rfl, rfl⟩ pl pu pt h0 (hz _ _ ja) e2 e3)) fun V s3 h3 => h3.after (goes_keeps (fun b o e => Heap.get?_push_of_some _ e))
theorem ok_upto (K : B.Ok) {a b : E} (ha : EvOK cl B O nm A a) (hb : EvOK cl B O nm A b) : EvOK cl B O nm A (.upto a b) := fun ast env η σ v σ' ρ s hc e R F => by
  refine chz_upto hc fun x y q p h => ?_
  simp only [Bool.and_eq_true] at h
  refine bindE e fun x' σ1 e1 e => ?_
  refine bindE e fun y' σ2 e2 e => ?_
  cases y' <;> first | (exact nn e) | skip
  dsimp only at e
  split at e
  · rename_i h0
    refine eval_sub_eq (ha _ _ _ _ _ _ _ _ h.1 e1 R F) fun X s1 ⟨ρ1, G1, R1, m1⟩ => ?_
    refine wpAny_Slice ?_
    simp only [evalPart_none, evalPart_some]
    refine wpAny_pure ?_
    refine Wp.pv (hb _ _ _ _ _ _ _ _ h.2 e2 R1 (F.go G1)) fun Y s2 ρ2 G2 R2 m2 => ?_
    refine wpAny_pure ?_
    obtain ⟨t, rfl⟩ := m2
    exact Wp.mono (slice_tail (ops := [.none, .bool true]) K R2 (m1.pre G2.pre) e .none (.int _ t) .none (by simp) (fun vs xs hi => kmk_upto hi h0) (fun _ _ => rfl)) fun V s3 h3 => h3.after (G1.trans G2)
  · first | exact nn e | cases e
theorem ok_from (K : B.Ok) {a b : E} (ha : EvOK cl B O nm A a) (hb : EvOK cl B O nm A b) : EvOK cl B O nm A (.from a b) := fun ast env η σ v σ' ρ s hc e R F => by
  refine chz_from hc fun x y q p h => ?_
  simp only [Bool.and_eq_true] at h
  refine bindE e fun x' σ1 e1 e => ?_
  refine bindE e fun y' σ2 e2 e => ?_
  cases y' <;> first | (exact nn e) | skip
  dsimp only at e
  split at e
  · rename_i h0
    refine eval_sub_eq (ha _ _ _ _ _ _ _ _ h.1 e1 R F) fun X s1 ⟨ρ1, G1, R1, m1⟩ => ?_
    refine wpAny_Slice ?_
    simp only [evalPart_none, evalPart_some]
    refine Wp.pv (hb _ _ _ _ _ _ _ _ h.2 e2 R1 (F.go G1)) fun Y s2 ρ2 G2 R2 m2 => ?_
    refine wpAny_pure (wpAny_pure ?_)
    obtain ⟨t, rfl⟩ := m2
    exact Wp.mono (slice_tail (ops := [.none, .bool true]) K R2 (m1.pre G2.pre) e (.int _ t) .none .none (by simp) (fun vs xs hi => kmk_from hi h0) (fun _ _ => rfl)) fun V s3 h3 => h3.after (G1.trans G2)
  · first | exact nn e | cases e
theorem ok_rev (K : B.Ok) {a : E} (ha : EvOK cl B O nm A a) : EvOK cl B O nm A (.rev a) := fun ast env η σ v σ' ρ s hc e R F => by
  obtain ⟨x, i, k, r', r, q, p, rfl, h⟩ := chk_rev hc
  simp only [Bool.and_eq_true] at h
  obtain rfl := beq_iff_eq.mp h.2
  refine bindE e fun x' σ1 e1 e => ?_
  refine eval_sub_eq (ha _ _ _ _ _ _ _ _ h.1 e1 R F) fun X s1 ⟨ρ1, G1, R1, m1⟩ => ?_
  refine wpAny_Slice ?_
  simp only [evalPart_none, evalPart_some]
  refine wpAny_pure (wpAny_pure ?_)
  refine wpAny_UnaryOp (leaf (wpAny_Constant_int (leaf (neg_int ?_))))
  exact Wp.mono (slice_tail (ops := [.bool true, .none]) K (R1.tok (n := s1.toks + 1 + 1)) m1 e .none .none (.int _ _) (by simp) (fun vs xs hi => pick_rev hi) (fun _ _ => rfl)) fun V s3 h3 => PV.after (s' := { s1 with toks := s1.toks + 1 + 1 }) G1 h3
theorem ok_every (K : B.Ok) {a : E} {n : Nat} (ha : EvOK cl B O nm A a) : EvOK cl B O nm A (.every a n) := fun ast env η σ v σ' ρ s hc e R F => by
  refine Classical.byContradiction fun hG0 => ?_
  obtain ⟨x, i, k, r', q, p, rfl, h⟩ := chk_every hc
  simp only [Bool.and_eq_true, decide_eq_true_eq] at h
  obtain rfl := beq_iff_eq.mp h.1.2
  refine hG0 ?_
  refine bindE e fun x' σ1 e1 e => ?_
  refine eval_sub_eq (ha _ _ _ _ _ _ _ _ h.1.1 e1 R F) fun X s1 ⟨ρ1, G1, R1, m1⟩ => ?_
  refine wpAny_Slice ?_
  simp only [evalPart_none, evalPart_some]
  refine wpAny_pure (wpAny_pure ?_)
  refine leaf (wpAny_Constant_int ?_)
  exact Wp.mono (slice_tail (ops := [.bool true, .none]) K (R1.tok (n := s1.toks + 1)) m1 e .none .none (.int _ _) (by simp; (first | omega | lia)) (fun vs xs hi => pick_every hi h.2) (fun _ _ => rfl)) fun V s3 h3 => PV.after (s' := { s1 with toks := s1.toks + 1 }) G1 h3
end
end Tk

namespace Tk
open PySem PySem.W PyProof.Rows PySem.Calls

theorem mem_of_look {α : Type} : ∀ {l : List (Nat × α)} {n : Nat} {c : α}, l.lookup n = some c → (n, c) ∈ l
  | (k, v) :: r, n, c, h => by
    rw [List.lookup_cons] at h
    cases hb : n == k with
    | true => rw [hb] at h; cases h; rw [beq_iff_eq.mp hb]; exact List.mem_cons_self
    | false => rw [hb] at h; exact List.mem_cons_of_mem _ (mem_of_look h)
noncomputable abbrev FK (P : Params) : Frag := finL P
theorem Gr.frag {P : Params} {h : Heap} (G : Gr P h) : (FK P).In h := fun a o e => G (a, o) (mem_of_look e)

theorem fn_keep (P : Params) : gfuns.all (fun x => keepIn (FK P) (.ref x.1)) = true := by
  have : (fun P : Params => gfuns.all (fun x => keepIn (FK P) (.ref x.1))) = fun _ => true := by kernel_rfl
  exact congrFun this P
noncomputable def clss : List Nat := [192, 276]
theorem attr_free (P : Params) : clss.all (fun C => hasDictIn (FK P) C && plainGet (FK P) C "" && attrNames.all (fun x => findIn (FK P) (.ref C) x == some none) && (findIn (FK P) (.ref C) "__setattr__" == some (some (.builtin "object.__setattr__"))) && plainOver (FK P) C && attrNames.all (fun x => takerIn (FK P) C x == some none)) = true := by
  have : (fun P : Params => clss.all (fun C => hasDictIn (FK P) C && plainGet (FK P) C "" && attrNames.all (fun x => findIn (FK P) (.ref C) x == some none) && (findIn (FK P) (.ref C) "__setattr__" == some (some (.builtin "object.__setattr__"))) && plainOver (FK P) C && attrNames.all (fun x => takerIn (FK P) C x == some none))) = fun _ => true := by kernel_rfl
  exact congrFun this P
noncomputable abbrev meths : List (Nat × Nat × Nat) := methL
theorem meth_fn (P : Params) : meths.all (fun x => match methNames[x.2.1]? with
    | some nm => findIn (FK P) (.ref x.1) nm == some (some (.ref x.2.2)) && isFn (FK P) (.ref x.2.2) && keepIn (FK P) (.ref x.2.2)
    | none => false) = true := by
  have : (fun P : Params => meths.all (fun x => match methNames[x.2.1]? with
    | some nm => findIn (FK P) (.ref x.1) nm == some (some (.ref x.2.2)) && isFn (FK P) (.ref x.2.2) && keepIn (FK P) (.ref x.2.2)
    | none => false)) = fun _ => true := by kernel_rfl
  exact congrFun this P
theorem methFn_mem {C m f : Nat} (h : methFn C m = some f) : (C, m, f) ∈ meths := by
  refine mapE1 h fun x h1 hq0 => ?_
  obtain rfl := hq0
  have h2 := List.find?_some h1
  rw [Bool.and_eq_true, beq_iff_eq, beq_iff_eq] at h2
  obtain ⟨rfl, rfl⟩ := h2
  exact List.mem_of_find?_eq_some h1
theorem rows_at (P : Params) : (readsIn (FK P) 3510 (.type "type") && (match findCls (FK P) (.ref 3510) (.type "type") "rows" with | some (.val (.ref 304)) => true | _ => false)) = true := by
  have : (fun P : Params => (readsIn (FK P) 3510 (.type "type") && (match findCls (FK P) (.ref 3510) (.type "type") "rows" with | some (.val (.ref 304)) => true | _ => false))) = fun _ => true := by kernel_rfl
  exact congrFun this P
theorem price_glob (P : Params) : findIn3 (F3 P) "PriceRows" = some (.ref 3510) := by
  have : (fun P : Params => findIn3 (F3 P) "PriceRows") = fun _ => some (.ref 3510) := by kernel_rfl
  exact congrFun this P

section
variable {cl : Bool} {B : Bs} {O : Orc} {nm : List Str} {A : Around} {env : Env} {η : En} {σ σ' σ₁ : St} {ρ ρ' : List Addr} {s s' : Shared} {v : AV} {V : Value}

theorem plain_args {es : Es} {xs : List Expr} {sc : Scope} (h : chks nm sc es xs = true) (env : Env) (pos : Pos) : (backTo pos (starEach xs env)).any (·.1) = false ∧ (backTo pos (starEach xs env)).all (fun x => !x.1) = true := by
  induction xs generalizing es with
  | nil => exact ⟨rfl, rfl⟩
  | cons x ys ih =>
    cases es with
    | nil => exact absurd h Bool.false_ne_true
    | cons a r =>
      refine Classical.byContradiction fun hG0 => ?_
      obtain ⟨x', ys', e, hs, h⟩ := chks_cons h
      refine hG0 ?_
      cases e
      rw [hs env]
      refine Classical.byContradiction fun hG1 => ?_
      obtain ⟨a1, a2⟩ := ih (Bool.and_eq_true_iff.mp h).2
      refine hG1 ?_
      constructor
      · show (false || (backTo pos (starEach ys env)).any (·.1)) = false
        rw [a1]; rfl
      · show (true && (backTo pos (starEach ys env)).all (fun x => !x.1)) = true
        rw [a2]; rfl
theorem args_ok {es : Es} {xs : List Expr} {sc : Scope} {f : Value} {pos : Pos} {Q : Args → Shared → Prop} (h : chks nm sc es xs = true) (k : Wp cl B A (spliced (backTo pos (starEach xs env))) (fun vs s₁ => Q ⟨vs, []⟩ s₁) s) :
    Wp cl B A (evalArgs f true (backTo pos (starEach xs env)) []) Q s := by
  cases xs with
  | nil =>
    unfold evalArgs
    show Wp cl B A (spliced [] >>= _) Q s
    refine wpAny_bind (Wp.mono k fun vs s1 q => wpAny_bind (wpAny_pure ?_))
    refine wpAny_holding ?_
    exact wpAny_bind (wpAny_pure (wpAny_bind (wpAny_pure (wpAny_pure q))))
  | cons x ys =>
    cases es with
    | nil => exact absurd h Bool.false_ne_true
    | cons a r =>
      refine Classical.byContradiction fun hG0 => ?_
      obtain ⟨x', ys', e, hs, h⟩ := chks_cons h
      refine hG0 ?_
      cases e
      rw [hs env] at k ⊢
      exact evalArgs_plain k
theorem PV.call {f : Value} {Vs : List Value} (h : Cd cl B A (.call f ⟨Vs, []⟩) (Ret (PV B ρ s σ' v)) s) : Wp cl B A (call f Vs) (PV B ρ s σ' v) s := wpAny_call h
/-- a call behind its arguments -/
theorem call_tail {es : Es} {xs : List Expr} {sc : Scope} {f : Nat} {pos : Pos} {first : List Value} {vs : List AV} {args : List AV} (K : B.Ok) (hO : OrcOK cl B O A) (hs : EsOK cl B O nm A es) (hc : chks nm env.scope es xs = true) (hk : keepIn (FK B.w.params) (.ref f) = true)
    (e1 : evs O B.ns prices es η σ = some (vs, σ₁)) (e2 : O f (args ++ vs) σ₁ = some (v, σ')) (R : Rel B ρ σ s) (F : Frm B env nm η ρ s.heap) (hf : VMs B ρ args first) :
    Wp cl B A (callWith pos (.ref f) first (backTo pos (starEach xs env)) []) (PV B ρ s σ' v) s := by
  refine callWith_of (P := (FK B.w.params).In) (by rw [(plain_args hc env pos).1]; rfl) (keeps_K hk) (args_ok hc ?_)
  refine Wp.pvs (hs _ _ _ _ _ _ _ _ _ hc e1 R F) fun Vs s1 ρ1 G1 R1 m1 => ⟨(R1.gr K).frag, ?_⟩
  have app : VMs B ρ1 (args ++ vs) (first ++ Vs) := by
    have hf' := hf.pre G1.pre
    clear hf e2
    induction hf' with
    | nil => exact m1
    | cons a b ih => exact .cons a ih
  exact Wp.mono (PV.call (hO _ _ _ _ _ e2 ρ1 s1 _ R1 app)) fun V s2 h2 => h2.after G1
theorem gfun_at {P : Params} {f : Nat} {x : Str} (h : gfuns.lookup f = some x) : findIn3 (F3 P) x = some (.ref f) ∧ keepIn (FK P) (.ref f) = true :=
  ⟨beq_iff_eq.mp (List.all_eq_true.mp (gfuns_ok P) (f, x) (mem_of_look h)), List.all_eq_true.mp (fn_keep P) (f, x) (mem_of_look h)⟩
theorem ok_call {f : Nat} {es : Es} (K : B.Ok) (hO : OrcOK cl B O A) (hs : EsOK cl B O nm A es) : EvOK cl B O nm A (.call f es) := fun ast env η σ v σ' ρ s hc e R F => by
  refine chz_call hc fun x q xs p h => ?_
  simp only [Bool.and_eq_true] at h
  refine bindE e fun vs σ1 e1 e => ?_
  obtain ⟨g1, g2⟩ := gfun_at (P := B.w.params) (beq_iff_eq.mp h.1.1.2)
  exact Call_Name rfl (leaf (ev_global K h.1.1.1 R F g1 (call_tail (sc := env.scope) (args := []) K hO hs h.1.2 g2 e1 e R F .nil)))
/-! instances -/
theorem inst_at {n C d : Nat} {fs : List (Nat × AV)} {a : Addr} (R : Rel B ρ σ s) (ha : ρ[n]? = some a) (h1 : σ[n]? = some (.inst C d)) (h2 : σ[d]? = some (.dict fs)) :
    ∃ ad es k, InstAt s.heap a (instObj C ad) C (some (dictOf es k)) ∧ DM B ρ fs es ∧ (C = 192 ∨ C = 276) ∧ ρ[d]? = some ad := by
  refine Classical.byContradiction fun hG0 => ?_
  obtain ⟨ad, q, hi, hC⟩ := R.obj n a _ ha h1
  obtain ⟨es, k, hd, hm⟩ := R.obj d ad _ q h2
  refine hG0 ?_
  exact ⟨ad, es, k, ⟨hi, rfl, rfl, hd⟩, hm, hC, q⟩
theorem attr_nodup : attrNames.Nodup := by decide
theorem attr_inj {a b : Nat} {x : Str} (h1 : attrNames[a]? = some x) (h2 : attrNames[b]? = some x) : a = b := by
  obtain ⟨p, q⟩ := List.getElem?_eq_some_iff.mp h1
  obtain ⟨p', q'⟩ := List.getElem?_eq_some_iff.mp h2
  exact (List.getElem_inj attr_nodup).mp (q.trans q'.symm)
theorem DM.get {fs : List (Nat × AV)} {es : List DictEntry} (h : DM B ρ fs es) {a : Nat} {x : Str} (hx : attrNames[a]? = some x) (hl : fs.lookup a = some v) : ∃ V, getL x es = some (some V) ∧ VM B ρ v V := by
  unfold getL
  induction h with
  | nil => cases hl
  | @cons b w fs e es y t h1 h2 h3 h4 ih =>
    rw [List.lookup_cons] at hl
    rw [List.find?_cons, h2]
    by_cases hab : a = b
    · subst hab
      simp only [beq_self_eq_true] at hl
      cases hl
      rw [h1] at hx; cases hx
      rw [show (Value.str x t).isStr x = true from beq_self_eq_true x]
      exact ⟨_, rfl, h3⟩
    · have : (a == b) = false := beq_false_of_ne hab
      rw [this] at hl
      have : (Value.str y t).isStr x = false := by
        show (y == x) = false
        rw [beq_eq_false_iff_ne]
        intro q; subst q; exact hab (attr_inj hx h1)
      rw [this]
      obtain ⟨V, q1, q2⟩ := ih hl
      refine ⟨V, ?_, q2⟩
      split at q1
      · rename_i e' q; rw [q]; exact q1
      · split at q1 <;> cases q1
theorem DM.miss {fs : List (Nat × AV)} {es : List DictEntry} (h : DM B ρ fs es) {x : Str} (hx : attrNames.contains x = false) : getL x es = some none := by
  have : es.find? (·.key.isStr x) = none ∧ es.any (·.refKey) = false := by
    induction h with
    | nil => exact ⟨rfl, rfl⟩
    | @cons b w fs e es y t h1 h2 h3 h4 ih =>
      have hy : (Value.str y t).isStr x = false := by
        show (y == x) = false
        rw [beq_eq_false_iff_ne]
        intro q; subst q
        have := List.mem_of_getElem? h1
        rw [← List.contains_iff_mem, hx] at this; cases this
      rw [List.find?_cons, h2, hy, List.any_cons]
      refine ⟨ih.1, ?_⟩
      rw [ih.2, Bool.or_false]
      unfold DictEntry.refKey
      rw [h2]
  unfold getL
  rw [this.1, this.2]; rfl
theorem VM.handed (h : VM B ρ v V) : handedIn V = true := by
  cases v with
  | int i => obtain ⟨t, rfl⟩ := h; rfl
  | bool b => cases h; rfl
  | none => cases h; rfl
  | bytes l => obtain ⟨a, t, rfl, _⟩ := h; rfl
  | lab n => obtain ⟨a, _, rfl⟩ := h; rfl
  | script => cases h; rfl
  | prices => cases h; rfl
theorem cls_facts (P : Params) {C : Nat} (h : C = 192 ∨ C = 276) : hasDictIn (FK P) C = true ∧ plainGet (FK P) C "" = true ∧ (∀ x ∈ attrNames, findIn (FK P) (.ref C) x = some none) ∧ findIn (FK P) (.ref C) "__setattr__" = some (some (.builtin "object.__setattr__")) ∧ plainOver (FK P) C = true ∧ ∀ x ∈ attrNames, takerIn (FK P) C x = some none := by
  have := List.all_eq_true.mp (attr_free P) C (by unfold clss; rcases h with rfl | rfl <;> simp)
  simp only [Bool.and_eq_true] at this
  refine ⟨this.1.1.1.1.1, this.1.1.1.1.2, fun x hx => beq_iff_eq.mp (List.all_eq_true.mp this.1.1.1.2 x hx), beq_iff_eq.mp this.1.1.2, this.1.2, fun x hx => beq_iff_eq.mp (List.all_eq_true.mp this.2 x hx)⟩
theorem attrOf_some {x : AV} {a : Nat} (e : attrOf σ x a = some v) : ∃ n C d fs, x = .lab n ∧ σ[n]? = some (.inst C d) ∧ σ[d]? = some (.dict fs) ∧ fs.lookup a = some v := by
  unfold attrOf at e
  split at e
  · split at e
    · split at e
      · exact ⟨_, _, _, _, rfl, ‹_›, ‹_›, e⟩
      · first | exact nn e | cases e
    · first | exact nn e | cases e
  · first | exact nn e | cases e
theorem get_attr {x : AV} {X : Value} {a : Nat} {name : Str} {ex : Bool} (K : B.Ok) (R : Rel B ρ σ s) (m : VM B ρ x X) (hn : attrNames[a]? = some name) (e : attrOf σ x a = some v) : WpA B A (getAttr X name ex) (fun V s' => PV B ρ s σ v V s') s := by
  refine Classical.byContradiction fun hG0 => ?_
  obtain ⟨n, C, d, fs, rfl, h1, h2, h3⟩ := attrOf_some e
  obtain ⟨ad', ha, rfl⟩ := m
  obtain ⟨ad, es, k, I, D, hC, _⟩ := inst_at R ha h1 h2
  obtain ⟨V, q1, q2⟩ := D.get hn h3
  obtain ⟨c1, c2, c3, _⟩ := cls_facts B.w.params hC
  refine hG0 ?_
  refine get_value (K := FK B.w.params) (R.gr K).frag I (plainGet_of (name := "") c2).1 (findObj_own c1 (c3 _ (List.mem_of_getElem? hn)) rfl (by rw [lookIn_dict]; exact q1)) q2.handed ?_
  exact (PV.now R q2).tok
theorem base_plain {o : Expr} (h : plainBase o = true) (name : Str) (env : Env) (t : Sem Value) : attributeBase o name env t = t := by
  cases o <;> first | (exact absurd h Bool.false_ne_true) | rfl
theorem ok_attr {o : E} {a : Nat} (K : B.Ok) (ho : EvOK cl B O nm A o) : EvOK cl B O nm A (.attr o a) := fun ast env η σ v σ' ρ s hc e R F => by
  refine chz_attr hc fun ob x q h => ?_
  simp only [Bool.and_eq_true] at h
  refine bindE e fun x' σ1 e1 e => ?_
  refine mapE1 e fun w e2 e3 => ?_
  cases e3
  rw [arm_eval_Attribute, base_plain h.1.2]
  refine wpAny_bind (Wp.pv (ho _ _ _ _ _ _ _ _ h.1.1 e1 R F) fun X s1 ρ1 G1 R1 m1 => wpAny_bind (wpAny_standAt (wpAny_bind (wpAny_holding ?_))))
  refine Wp.mono (leaf (get_attr K R1 m1 (beq_iff_eq.mp h.2) e2)) fun V s2 h2 => wpAny_bind (wpAny_letTemporaryGo (wpAny_pure (h2.after G1)))
theorem ok_prices (K : B.Ok) : EvOK cl B O nm A .prices := fun ast env η σ v σ' ρ s hc e R F => by
  refine chz_prices hc fun x p y q h => ?_
  simp only [Bool.and_eq_true] at h
  cases e
  obtain rfl := beq_iff_eq.mp h.1.2
  obtain rfl := beq_iff_eq.mp h.2
  rw [arm_eval_Attribute, base_plain rfl]
  refine wpAny_bind (leaf (ev_global K h.1.1 R F (price_glob _) (wpAny_bind (wpAny_standAt (wpAny_bind (wpAny_holding ?_))))))
  have hr := rows_at B.w.params
  simp only [Bool.and_eq_true] at hr
  have hf : findCls (FK B.w.params) (.ref 3510) (.type "type") "rows" = some (.val (.ref 304)) := by
    have := hr.2
    split at this
    · assumption
    · cases this
  refine leaf (cls_value (K := FK B.w.params) (R.gr K).frag hr.1 hf rfl ?_)
  exact wpAny_bind (wpAny_letTemporaryGo (wpAny_pure (PV.now R (v := .prices) rfl).tok))
theorem clsOf_some {x : AV} {C : Nat} (e : clsOf σ x = some C) : ∃ n d fs, x = .lab n ∧ σ[n]? = some (.inst C d) ∧ σ[d]? = some (.dict fs) := by
  unfold clsOf at e
  split at e
  · split at e
    · split at e
      · cases e; exact ⟨_, _, _, rfl, ‹_›, ‹_›⟩
      · first | exact nn e | cases e
    · first | exact nn e | cases e
  · first | exact nn e | cases e
theorem meth_names : ∀ x ∈ methNames, attrNames.contains x = false := by decide
theorem ok_meth {o : E} {m : Nat} {es : Es} (K : B.Ok) (hO : OrcOK cl B O A) (ho : EvOK cl B O nm A o) (hs : EsOK cl B O nm A es) : EvOK cl B O nm A (.meth o m es) := fun ast env η σ v σ' ρ s hc e R F => by
  refine chz_meth hc fun ob x q xs p h => ?_
  refine Classical.byContradiction fun hG0 => ?_
  simp only [Bool.and_eq_true, decide_eq_true_eq] at h
  obtain ⟨⟨⟨⟨⟨h1, h2⟩, h3⟩, h4⟩, h5⟩, h6⟩ := h
  refine hG0 ?_
  refine bindE e fun x' σ1 e1 e => ?_
  dsimp only at e
  split at e
  · rename_i f hf
    refine bindE e fun vs σ2 e2 e => ?_
    refine bindE1 hf fun C hC hm => ?_
    rw [arm_eval_Call, base_plain h2]
    refine wpAny_bind (Wp.pv (ho _ _ _ _ _ _ _ _ h1 e1 R F) fun X s1 ρ1 G1 R1 m1 => wpAny_bind (wpAny_standAt ?_))
    have hform : methodCallForm (xs.length + ([] : List Keyword).length) (backTo p (starEach xs env)) (backToKw p (keywordEach [] env)) = true := by
      unfold methodCallForm
      rw [(plain_args h4 env p).2]
      show (true && true && decide (xs.length + 0 + 0 < 30)) = true
      rw [decide_eq_true (by (first | lia | omega))]; rfl
    have hpos : methodCallPos true ob env q p = pure p := by unfold methodCallPos; simp [h6]
    unfold methodCall
    rw [hform]
    refine Classical.byContradiction fun hG0 => ?_
    refine Classical.byContradiction fun hG1 => ?_
    obtain ⟨n, d, fs, rfl, q1, q2⟩ := clsOf_some hC
    obtain ⟨a, ha, rfl⟩ := m1
    obtain ⟨ad, es', k, I, D, hC', _⟩ := inst_at R1 ha q1 q2
    have hx : methNames[m]? = some x := beq_iff_eq.mp h3
    have mf := List.all_eq_true.mp (meth_fn B.w.params) (C, m, f) (methFn_mem hm)
    simp only [hx, Bool.and_eq_true] at mf
    obtain ⟨c1, c2, _⟩ := cls_facts B.w.params hC'
    refine hG1 ?_
    refine hG0 ?_
    have hmiss := D.miss (meth_names x (List.mem_of_getElem? hx))
    refine wpAny_bind (wpAny_holding (leaf (method_fn (K := FK B.w.params) (R1.gr K).frag I (plainGet_of (name := "") c2).1 (plainGet_of (name := "") c2).2 (beq_iff_eq.mp mf.1.1) (beq_iff_eq.mp mf.1.2) ?_ ?_)))
    · show (lookIn x (dictOf es' k)).map _ = _
      rw [lookIn_dict, hmiss]; rfl
    · refine wpAny_bind (wpAny_of_eq hpos ?_)
      exact Wp.mono (call_tail (sc := env.scope) (args := [.lab n]) K hO hs h4 mf.2 e2 e R1 (F.go G1) (.cons ⟨a, ha, rfl⟩ .nil)) fun V s2 h2 => h2.after G1
  · first | exact nn e | cases e
end
end Tk

namespace Tk
open PySem PySem.W PyProof.Rows PySem.Calls
section
variable {cl : Bool} {B : Bs} {O : Orc} {nm : List Str} {A : Around} {env : Env} {η : En} {σ σ' σ₁ : St} {ρ ρ' : List Addr} {s s' : Shared} {v : AV} {V : Value}

theorem Rel.ns0 (R : Rel B ρ σ s) (K : B.Ok) : ∃ mb, s.heap.Ns 0 mb ∧ ∀ x : Str, x ≠ "__name__" → mb x = bootBuiltins x := by
  have g : s.heap.get? builtinsNs = (boot_heap B.w.params).get? builtinsNs := ((R.gr K).at 0 rfl).trans rfl
  have b := congrFun boot_blt B.w.params
  have b1 : (boot_heap B.w.params).isNs builtinsNs = true := congrArg Prod.fst b
  have b2 : (boot_heap B.w.params).bltView = bltViewBooted := congrArg Prod.snd b
  refine ⟨_, Heap.Ns.of_isNs ((isNs_congr g).trans b1), fun x hx => ?_⟩
  show s.heap.nsMap builtinsNs x = _
  rw [nsMap_congr g]
  exact Heap.of_bltView b1 b2 x hx
theorem blt_at {P : Params} {x : Str} {W : Value} (h : blts.lookup x = some W) : findIn3 (F3 P) x = none ∧ bootBuiltins x = some W ∧ x ≠ "__name__" := by
  have := List.all_eq_true.mp (blts_ok P) (x, W) (mem_of_lookup h)
  simp only [Bool.and_eq_true, Option.isNone_iff_eq_none, beq_iff_eq, Bool.not_eq_true', beq_eq_false_iff_ne] at this
  exact ⟨this.1.1, this.1.2, this.2⟩
theorem ev_blt {x : Str} {pos : Pos} {W : Value} {Q : Value → Shared → Prop} (K : B.Ok) (hc : isGlob env.scope x = true) (R : Rel B ρ σ s) (F : Frm B env nm η ρ s.heap) (e : blts.lookup x = some W) (h : Q W s) :
    WpA B A (eval (.Name x pos) env) Q s := by
  refine Classical.byContradiction fun hG0 => ?_
  obtain ⟨h1, h2⟩ := isGlob_of hc
  obtain ⟨e1, e2, e3⟩ := blt_at (P := B.w.params) e
  obtain ⟨mb, n, q⟩ := R.ns0 K
  refine hG0 ?_
  exact Name_function_global F.kind h1 (loadGlobal_builtin (by rw [F.glob]; exact R.ns3 K) e1 (by rw [F.blt]; exact n) ((q x e3).trans e2) h) h2
theorem chk_star {a : E} {x : Expr} {p : Pos} {sc : Scope} : chk nm sc a (.Starred x p) = false := by
  cases a <;> first | rfl | (rename_i f _; cases f <;> rfl)
theorem chks_one {a : E} {y : Expr} {sc : Scope} (h : chk nm sc a y = true) : chks nm sc (.cons a .nil) [y] = true := by
  cases y <;> first | (rw [chk_star] at h; cases h) | (show (chk _ _ _ _ && true) = true; rw [h]; rfl)
theorem chks_two {a b : E} {y z : Expr} {sc : Scope} (h : chk nm sc a y = true) (h' : chk nm sc b z = true) : chks nm sc (.cons a (.cons b .nil)) [y, z] = true := by
  cases y <;> first | (rw [chk_star] at h; cases h) | (show (chk _ _ _ _ && chks _ _ _ _) = true; rw [h, chks_one h']; rfl)
theorem evs_one {a : E} {x : AV} (h : ev O B.ns prices a η σ = some (x, σ₁)) : evs O B.ns prices (.cons a .nil) η σ = some ([x], σ₁) := by
  show (ev O B.ns prices a η σ).bind _ = _
  rw [h]; rfl
/-- a call of a built-in function or a type behind its arguments -/
theorem blt_tail {es : Es} {xs : List Expr} {f : Value} {pos : Pos} {vs : List AV} {Q : Value → Shared → Prop} (hs : EsOK cl B O nm A es) (hc : chks nm env.scope es xs = true) (hf : (∃ i, f = .builtin i) ∨ ∃ t, f = .type t)
    (e1 : evs O B.ns prices es η σ = some (vs, σ₁)) (R : Rel B ρ σ s) (F : Frm B env nm η ρ s.heap) (k : ∀ Vs s1 ρ1, Goes Non ρ s.heap ρ1 s1.heap → Rel B ρ1 σ₁ s1 → VMs B ρ1 vs Vs → Wp cl B A (call f Vs) Q s1) :
    Wp cl B A (callWith pos f [] (backTo pos (starEach xs env)) []) Q s := by
  refine callWith_of (P := fun _ => True) (by rw [(plain_args hc env pos).1]; rfl) (fun h _ => ?_) (args_ok hc ?_)
  · refine ⟨.machine, .inr (.inl rfl), ?_⟩
    rcases hf with ⟨i, rfl⟩ | ⟨t, rfl⟩ <;> exact Looks.of_pure rfl
  · exact Wp.pvs (hs _ _ _ _ _ _ _ _ _ hc e1 R F) fun Vs s1 ρ1 G1 R1 m1 => ⟨trivial, k Vs s1 ρ1 G1 R1 m1⟩
/-- one argument -/
theorem blt1 {a : E} {x : Str} {W : Value} {p q : Pos} {y : Expr} {w : AV} {σ' : St} (K : B.Ok) (ha : EvOK cl B O nm A a) (hg : isGlob env.scope x = true) (hx : blts.lookup x = some W) (hf : (∃ i, W = .builtin i) ∨ ∃ t, W = .type t)
    (hc : chk nm env.scope a y = true) (e1 : ev O B.ns prices a η σ = some (w, σ₁)) (R : Rel B ρ σ s) (F : Frm B env nm η ρ s.heap) (k : ∀ X s1 ρ1, Rel B ρ1 σ₁ s1 → VM B ρ1 w X → Wp cl B A (call W [X]) (PV B ρ1 s1 σ' v) s1) :
    Wp cl B A (eval (.Call (.Name x q) [y] [] p) env) (PV B ρ s σ' v) s := by
  refine Call_Name rfl (leaf (ev_blt K hg R F hx (blt_tail (es_cons ha es_nil) (chks_one hc) hf (evs_one e1) R F fun Vs s1 ρ1 G1 R1 m1 => ?_)))
  cases m1 with
  | cons m mr => cases mr; exact Wp.mono (k _ _ _ R1 m) fun V s2 h2 => h2.after G1
theorem len_call {x : AV} {X : Value} (K : B.Ok) (e : b1v B.ns .len x σ = some (v, σ')) (R : Rel B ρ σ s) (m : VM B ρ x X) : WpA B A (call (.builtin "len") [X]) (PV B ρ s σ' v) s := by
  cases x <;> first | (exact nn e) | skip
  · obtain ⟨a, t, rfl, h⟩ := m
    delta b1v at e; dsimp only at e
    split at e
    · first | exact nn e | cases e
      rename_i l hz
      have hl : l.length = a.size := by rw [← h]; simp [bytesInts]
      exact len_bytes (by unfold lineOf at hz; (first | lia | omega)) (PV.now R (v := .int _) ⟨_, by rw [hl]⟩).tok
    · first | exact nn e | cases e
  · obtain ⟨a, ha, rfl⟩ := m
    delta b1v at e; dsimp only at e
    split at e
    · split at e
      · first | exact nn e | cases e
        rename_i l h1 hz
        obtain ⟨vs, ep, ia, ja⟩ := R.list_at ha h1
        exact Calls.call_len_list ia.isList (by rw [List.size_toArray, ja.length]; unfold lineOf at hz; (first | lia | omega)) (PV.now R (v := .int _) ⟨_, by rw [List.size_toArray, ja.length]⟩).tok
      · first | exact nn e | cases e
    · first | exact nn e | cases e
  · cases m
    delta b1v at e; dsimp only at e
    split at e
    · first | exact nn e | cases e
      rename_i hz
      obtain ⟨o, ho, r⟩ := K.list
      have ia : s.heap.IsList B.l B.vs.toArray := ⟨o, R.keep _ _ ho, r⟩
      exact Calls.call_len_list ia (by rw [List.size_toArray, K.iare.length]; unfold lineOf at hz; (first | lia | omega)) (PV.now R (v := .int _) ⟨_, by rw [List.size_toArray, K.iare.length]⟩).tok
    · first | exact nn e | cases e
theorem ok_len {a : E} (K : B.Ok) (ha : EvOK cl B O nm A a) : EvOK cl B O nm A (.b1 .len a) := fun ast env η σ v σ' ρ s hc e R F => by
  refine chz_b1_len hc fun x q y p h => ?_
  simp only [Bool.and_eq_true] at h
  refine bindE e fun w σ1 e1 e => ?_
  obtain rfl := beq_iff_eq.mp h.1.2
  exact blt1 K ha h.1.1 rfl (.inl ⟨_, rfl⟩) h.2 e1 R F fun X s1 ρ1 R1 m1 => leaf (len_call K e R1 m1)
theorem ok_abs {a : E} (K : B.Ok) (ha : EvOK cl B O nm A a) : EvOK cl B O nm A (.b1 .abs a) := fun ast env η σ v σ' ρ s hc e R F => by
  refine chz_b1_abs hc fun x q y p h => ?_
  simp only [Bool.and_eq_true] at h
  refine bindE e fun w σ1 e1 e => ?_
  obtain rfl := beq_iff_eq.mp h.1.2
  refine blt1 K ha h.1.1 rfl (.inl ⟨_, rfl⟩) h.2 e1 R F fun X s1 ρ1 R1 m1 => ?_
  obtain ⟨i, rfl⟩ : ∃ c, w = .int c := by cases w <;> first | exact ⟨_, rfl⟩ | (exact nn e)
  cases e
  obtain ⟨t, rfl⟩ := m1
  exact leaf (call_abs_int fun u tk => (PV.now R1 (v := .int _) ⟨u, by congr 1; split <;> (first | lia | omega)⟩).tok)
theorem ok_intb {a : E} (K : B.Ok) (ha : EvOK cl B O nm A a) : EvOK cl B O nm A (.b1 .int a) := fun ast env η σ v σ' ρ s hc e R F => by
  refine chz_b1_int hc fun x q y p h => ?_
  simp only [Bool.and_eq_true] at h
  refine bindBool e (fun _ _ => rfl) (fun _ => rfl) (fun _ _ => rfl) (fun _ _ => rfl) (fun _ => rfl) (fun _ => rfl) fun i σ1 e1 e => ?_
  refine Classical.byContradiction fun hG0 => ?_
  obtain rfl := beq_iff_eq.mp h.1.2
  refine hG0 ?_
  refine blt1 K ha h.1.1 rfl (.inr ⟨_, rfl⟩) h.2 e1 R F fun X s1 ρ1 R1 m1 => ?_
  cases e
  cases m1
  exact leaf (call_int_bool (PV.now R1 (v := .int _) ⟨_, rfl⟩).tok)
theorem sortedPerm {l l' : List Int} (h : l'.Perm l) (hp : l'.Pairwise (· ≤ ·)) : l' = l.mergeSort fun a b => decide (a ≤ b) := by
  refine List.Perm.eq_of_pairwise (le := fun a b => a ≤ b) (fun a b _ _ h1 h2 => Int.le_antisymm h1 h2) hp ?_ (h.trans (List.mergeSort_perm l _).symm)
  have := List.pairwise_mergeSort (le := fun a b => decide (a ≤ b)) (fun a b c h1 h2 => by simp only [decide_eq_true_eq] at *; (first | lia | omega)) (fun a b => by simp only [Bool.or_eq_true, decide_eq_true_eq]; (first | lia | omega)) l
  exact this.imp fun h => by simpa using h
theorem ok_sorted {a : E} (K : B.Ok) (ha : EvOK cl B O nm A a) : EvOK cl B O nm A (.b1 .sorted a) := fun ast env η σ v σ' ρ s hc e R F => by
  refine chz_b1_sorted hc fun x q y p h => ?_
  simp only [Bool.and_eq_true] at h
  refine bindLab e (fun _ _ => rfl) (fun _ => rfl) (fun _ _ => rfl) (fun _ _ => rfl) (fun _ => rfl) (fun _ => rfl) fun n σ1 e1 e => ?_
  obtain rfl := beq_iff_eq.mp h.1.2
  refine blt1 K ha h.1.1 rfl (.inl ⟨_, rfl⟩) h.2 e1 R F fun X s1 ρ1 R1 m1 => ?_
  dsimp only at e; delta b1v at e; dsimp only at e
  split at e
  · rename_i xs h1
    split at e
    · rename_i hz
      obtain ⟨_, rfl, rfl⟩ := newL_some e
      obtain ⟨a', ha', rfl⟩ := m1
      obtain ⟨vs, ep, ia, ja⟩ := R1.list_at ha' h1
      refine leaf (sorted_ints ia.isList ja (by rw [ja.length]; exact hz) fun out ns' hi hp hs => ?_)
      obtain ⟨e', he⟩ := sortedAll_at s1.heap vs out
      rw [← sortedPerm hp hs]
      refine PV.newList (s' := { s1 with heap := sortedAll s1.heap vs out }) (vs := out.toList) (ep := e') R1 (fun b o e => sortedAll_old e) rfl rfl (get_size1 _ 1) ?_ hi
      simpa [seqObj] using he
    · first | exact nn e | cases e
  · first | exact nn e | cases e
theorem items_of {vs : List Value} {xs : List Int} (h : IntsAre vs xs) : ∃ ps : Array (Int × Tok), vs.toArray = intItems ps ∧ ps.size = xs.length ∧ ∀ i, i < xs.length → xs[i]? = some (numAt ps i) := by
  induction h with
  | nil => exact ⟨#[], by simp [intItems], rfl, fun i hi => by simp at hi⟩
  | @cons n t vs ns hr ih =>
    refine Classical.byContradiction fun hG0 => ?_
    obtain ⟨ps, e1, e2, e3⟩ := ih
    refine hG0 ?_
    refine ⟨#[(n, t)] ++ ps, ?_, by simp [e2]; (first | lia | omega), fun i hi => ?_⟩
    · unfold intItems at e1 ⊢
      rw [Array.map_append, ← e1]
      simp
    · cases i with
      | zero =>
        have : (#[(n, t)] ++ ps)[0]? = some (n, t) := by rw [Array.getElem?_append_left (by simp)]; rfl
        simp [numAt, this]
      | succ i =>
        have := e3 i (by simpa using hi)
        rw [List.getElem?_cons_succ, this]
        unfold numAt
        congr 3
        rw [Array.getElem?_append_right (by simp)]
        simp
theorem ok_sum {a : E} (K : B.Ok) (hr : Room A 0) (ha : EvOK cl B O nm A a) : EvOK cl B O nm A (.b1 .sum a) := fun ast env η σ v σ' ρ s hc e R F => by
  refine chz_b1_sum hc fun x q y p h => ?_
  simp only [Bool.and_eq_true] at h
  refine bindLab e (fun _ _ => rfl) (fun _ => rfl) (fun _ _ => rfl) (fun _ _ => rfl) (fun _ => rfl) (fun _ => rfl) fun n σ1 e1 e => ?_
  obtain rfl := beq_iff_eq.mp h.1.2
  refine blt1 K ha h.1.1 rfl (.inl ⟨_, rfl⟩) h.2 e1 R F fun X s1 ρ1 R1 m1 => ?_
  dsimp only at e; delta b1v at e; dsimp only at e
  split at e
  · rename_i xs h1
    cases e
    refine Classical.byContradiction fun hG0 => ?_
    obtain ⟨a', ha', rfl⟩ := m1
    obtain ⟨vs, ep, ia, ja⟩ := R1.list_at ha' h1
    have hall := ja.allInts
    obtain ⟨ps, hps⟩ := hall.items
    refine hG0 ?_
    have hl := ia.isList
    rw [hps] at hl
    refine leaf (sum_intListG hr.handled hl fun h' tk t' hk => ?_)
    rw [preSum_eq, List.take_of_length_le (by simp)]
    have : (numsOf vs).sum = xs.sum := by rw [ja.numsOf]
    have e2 : vs = (intItems ps).toList := by rw [← hps]
    rw [e2, nums_intItems] at this
    rw [this]
    exact PV.grew R1 hk rfl rfl (v := .int _) ⟨_, rfl⟩
  · first | exact nn e | cases e
theorem best_le (ps : Array (Int × Tok)) : ∀ k i, i ≤ k → numAt ps i ≤ numAt ps (argBest (fun i j => decide (numAt ps i > numAt ps j)) k) ∧ argBest (fun i j => decide (numAt ps i > numAt ps j)) k ≤ k
  | 0, i, h => by obtain rfl := Nat.le_zero.mp h; exact ⟨Int.le_refl _, Nat.le_refl _⟩
  | k + 1, i, h => by
    unfold argBest
    by_cases hc : numAt ps (k + 1) > numAt ps (argBest (fun i j => decide (numAt ps i > numAt ps j)) k)
    · rw [if_pos (decide_eq_true hc)]
      refine ⟨?_, Nat.le_refl _⟩
      by_cases hi : i = k + 1
      · rw [hi]; exact Int.le_refl _
      · have := (best_le ps k i (by (first | lia | omega))).1; (first | lia | omega)
    · rw [if_neg (by simpa using hc)]
      refine ⟨?_, Nat.le_succ_of_le (best_le ps k 0 (Nat.zero_le _)).2⟩
      by_cases hi : i = k + 1
      · rw [hi]; (first | lia | omega)
      · exact (best_le ps k i (by (first | lia | omega))).1
theorem foldl_max_ge : ∀ (xs : List Int) (x : Int), x ≤ xs.foldl max x ∧ ∀ y ∈ xs, y ≤ xs.foldl max x
  | [], x => ⟨Int.le_refl _, fun _ h => (nomatch h)⟩
  | z :: r, x => by
    obtain ⟨a, b⟩ := foldl_max_ge r (max x z)
    refine ⟨Int.le_trans (Int.le_max_left _ _) a, fun y hy => ?_⟩
    rcases List.mem_cons.mp hy with rfl | hy
    · exact Int.le_trans (Int.le_max_right _ _) a
    · exact b y hy
theorem foldl_max_mem : ∀ (xs : List Int) (x : Int), xs.foldl max x ∈ x :: xs
  | [], x => List.mem_cons_self
  | z :: r, x => by
    have := foldl_max_mem r (max x z)
    rcases List.mem_cons.mp this with h | h
    · show r.foldl max (max x z) ∈ _
      rw [h]
      rcases Int.le_total x z with q | q
      · rw [Int.max_eq_right q]; simp
      · rw [Int.max_eq_left q]; simp
    · exact List.mem_cons_of_mem _ (List.mem_cons_of_mem _ h)
theorem ok_max {a : E} (K : B.Ok) (hr : Room A 0) (ha : EvOK cl B O nm A a) : EvOK cl B O nm A (.b1 .max a) := fun ast env η σ v σ' ρ s hc e R F => by
  refine chz_b1_max hc fun x q y p h => ?_
  simp only [Bool.and_eq_true] at h
  refine bindLab e (fun _ _ => rfl) (fun _ => rfl) (fun _ _ => rfl) (fun _ _ => rfl) (fun _ => rfl) (fun _ => rfl) fun n σ1 e1 e => ?_
  obtain rfl := beq_iff_eq.mp h.1.2
  refine blt1 K ha h.1.1 rfl (.inl ⟨_, rfl⟩) h.2 e1 R F fun X s1 ρ1 R1 m1 => ?_
  dsimp only at e; delta b1v at e; dsimp only at e
  split at e
  · rename_i x xs h1
    cases e
    refine Classical.byContradiction fun hG0 => ?_
    obtain ⟨a', ha', rfl⟩ := m1
    obtain ⟨vs, ep, ia, ja⟩ := R1.list_at ha' h1
    obtain ⟨ps, hps, hn, hat⟩ := items_of ja
    refine hG0 ?_
    have hl := ia.isList
    rw [hps] at hl
    have hlen : ps.size = xs.length + 1 := by rw [hn]; rfl
    refine leaf (max_intList hr.handled hl (by (first | omega | lia)) fun V h' tk hv hk => ?_)
    obtain ⟨t, rfl⟩ := intItems_at hv
    refine PV.grew R1 hk rfl rfl (v := .int _) ⟨t, ?_⟩
    congr 1
    have hb := fun i hi => best_le ps (ps.size - 1) i hi
    have hbk := (best_le ps (ps.size - 1) 0 (Nat.zero_le _)).2
    refine Int.le_antisymm ?_ ?_
    · have := hat _ (show argBest (fun i j => decide (numAt ps i > numAt ps j)) (ps.size - 1) < (x :: xs).length by rw [← hn]; (first | omega | lia))
      have hm := List.mem_of_getElem? this
      obtain ⟨g1, g2⟩ := foldl_max_ge xs x
      rcases List.mem_cons.mp hm with h | h
      · rw [h]; exact g1
      · exact g2 _ h
    · refine Classical.byContradiction fun hG1 => ?_
      have hm := foldl_max_mem xs x
      obtain ⟨i, hi, q⟩ := List.getElem_of_mem hm
      have := hat i hi
      rw [List.getElem?_eq_getElem hi, q] at this
      obtain e := Option.some.inj this
      refine hG1 ?_
      rw [e]
      exact (hb i (by rw [hn]; (first | omega | lia))).1
  · first | exact nn e | cases e
theorem ok_isint {a : E} (K : B.Ok) (ha : EvOK cl B O nm A a) : EvOK cl B O nm A (.b1 .isint a) := fun ast env η σ v σ' ρ s hc e R F => by
  refine chz_isint hc fun x q y z r p h => ?_
  refine B5 h fun h1 h2 h3 h4 h5 => ?_
  refine bindE e fun w σ1 e1 e => ?_
  obtain rfl := beq_iff_eq.mp h2
  obtain rfl := beq_iff_eq.mp h4
  obtain ⟨i, rfl⟩ : ∃ c, w = .int c := by cases w <;> first | exact ⟨_, rfl⟩ | (exact nn e)
  cases e
  have hst : ∀ env, starEach [y, .Name ("int" : Str) r] env = [(false, eval y env), (false, eval (.Name ("int" : Str) r) env)] := fun env => by
    cases y <;> first | rfl | (rw [chk_star] at h5; cases h5)
  refine Call_Name rfl (leaf (ev_blt K h1 R F rfl (callWith_of (P := fun _ => True) (by rw [hst]; rfl) (fun h _ => ⟨.machine, .inr (.inl rfl), Looks.of_pure rfl⟩) ?_)))
  rw [hst]
  refine evalArgs_plain (spliced_cons (Wp.pv (ha _ _ _ _ _ _ _ _ h5 e1 R F) fun X s1 ρ1 G1 R1 m1 => ?_))
  refine spliced_cons (leaf (ev_blt K h3 R1 (F.go G1) rfl (spliced_nil ⟨trivial, ?_⟩)))
  obtain ⟨t, rfl⟩ := m1
  exact leaf (IsiPair.int_int ((PV.now R1 (v := .bool _) rfl).after G1))
theorem ok_bitlen {a : E} (K : B.Ok) (ha : EvOK cl B O nm A a) : EvOK cl B O nm A (.b1 .bitlen a) := fun ast env η σ v σ' ρ s hc e R F => by
  refine chz_bitlen hc fun ob x q p h => ?_
  refine B4 h fun h1 h2 h3 h4 => ?_
  refine bindE e fun w σ1 e1 e => ?_
  obtain rfl := beq_iff_eq.mp h3
  obtain ⟨i, rfl⟩ : ∃ c, w = .int c := by cases w <;> first | exact ⟨_, rfl⟩ | (exact nn e)
  cases e
  rw [arm_eval_Call, base_plain h2]
  refine wpAny_bind (Wp.pv (ha _ _ _ _ _ _ _ _ h1 e1 R F) fun X s1 ρ1 G1 R1 m1 => wpAny_bind (wpAny_standAt ?_))
  obtain ⟨t, rfl⟩ := m1
  have hpos : methodCallPos true ob env q p = pure p := by unfold methodCallPos; simp [h4]
  unfold methodCall
  refine wpAny_bind (wpAny_holding (leaf (getMethod_int_bit_length ?_)))
  refine wpAny_bind (wpAny_of_eq hpos ?_)
  refine leaf (callWith_builtin rfl (evalArgs_nil3 ?_))
  exact call_int_bit_length ((PV.now R1 (v := .int _) ⟨_, rfl⟩).tok.after G1)
theorem ok_max2 {a b : E} (K : B.Ok) (hr : Room A 0) (ha : EvOK cl B O nm A a) (hb : EvOK cl B O nm A b) : EvOK cl B O nm A (.max2 a b) := fun ast env η σ v σ' ρ s hc e R F => by
  refine chz_max2 hc fun x q y z p h => ?_
  refine B4 h fun h1 h2 h3 h4 => ?_
  obtain rfl := beq_iff_eq.mp h2
  refine bindE e fun w σ1 e1 e => ?_
  refine bindE e fun u σ2 e2 e => ?_
  obtain ⟨i, rfl⟩ : ∃ c, w = .int c := by cases w <;> first | exact ⟨_, rfl⟩ | (exact nn e)
  obtain ⟨j, rfl⟩ : ∃ c, u = .int c := by cases u <;> first | exact ⟨_, rfl⟩ | (exact nn e)
  cases e
  have ee : evs O B.ns prices (.cons a (.cons b .nil)) η σ = some ([.int i, .int j], σ2) := by
    show (ev O B.ns prices a η σ).bind _ = _
    rw [e1]
    show (evs O B.ns prices (.cons b .nil) η σ1).map _ = _
    rw [evs_one e2]; rfl
  refine Call_Name rfl (leaf (ev_blt K h1 R F rfl (blt_tail (es_cons ha (es_cons hb es_nil)) (chks_two h3 h4) (.inl ⟨_, rfl⟩) ee R F fun Vs s1 ρ1 G1 R1 m1 => ?_)))
  cases m1 with
  | cons m mr =>
    cases mr with
    | cons m' mr =>
      cases mr
      obtain ⟨t, rfl⟩ := m
      obtain ⟨t', rfl⟩ := m'
      refine leaf (max_two_ints hr.handled fun h' tk hk => ?_)
      refine PV.after G1 (PV.grew (s' := { s1 with heap := h', toks := tk }) R1 hk rfl rfl (v := .int _) ?_)
      split
      · exact ⟨t', rfl⟩
      · exact ⟨t, rfl⟩
end
end Tk

namespace Tk
open PySem PySem.W PyProof.Rows PySem.Calls

noncomputable def FlM (B : Bs) (ρ : List Addr) : Fl → Flow → Prop
  | .next, f => f = .next
  | .ret v, f => ∃ V, f = .ret V ∧ VM B ρ v V
/-- what a statement leaves -/
noncomputable def PX (B : Bs) (env : Env) (nm : List Str) (ρ : List Addr) (s : Shared) (η' : En) (σ' : St) (fl : Fl) (f : Flow) (s' : Shared) : Prop :=
  ∃ ρ', Goes (FX env) ρ s.heap ρ' s'.heap ∧ Rel B ρ' σ' s' ∧ Frm B env nm η' ρ' s'.heap ∧ FlM B ρ' fl f
noncomputable def SxOK (cl : Bool) (B : Bs) (O : Orc) (nm : List Str) (A : Around) (st : S) : Prop := ∀ ast env η σ fl η' σ' ρ s, chkS nm env.scope st ast = true → ex O B.ns prices st η σ = some (fl, η', σ') → Rel B ρ σ s → Frm B env nm η ρ s.heap →
  Wp cl B A (exec ast env) (PX B env nm ρ s η' σ' fl) s
noncomputable def SsOK (cl : Bool) (B : Bs) (O : Orc) (nm : List Str) (A : Around) (st : Ss) : Prop := ∀ asts env η σ fl η' σ' ρ s, chkSs nm env.scope st asts = true → exs O B.ns prices st η σ = some (fl, η', σ') → Rel B ρ σ s → Frm B env nm η ρ s.heap →
  Wp cl B A (execs asts env) (PX B env nm ρ s η' σ' fl) s
section
variable {cl : Bool} {B : Bs} {O : Orc} {nm : List Str} {A : Around} {env : Env} {η η' : En} {σ σ' σ₁ : St} {ρ ρ' : List Addr} {s s' : Shared} {v : AV} {V : Value}

theorem PX.after {s'' : Shared} {fl : Fl} {f : Flow} (G : Goes (FX env) ρ s.heap ρ' s'.heap) (h : PX B env nm ρ' s' η' σ' fl f s'') : PX B env nm ρ s η' σ' fl f s'' := by
  refine Classical.byContradiction fun hG0 => ?_
  obtain ⟨r, g, x⟩ := h
  refine hG0 ?_
  exact ⟨r, G.trans g, x⟩
theorem ns_det {h : Heap} {a : Addr} {m m' : Str → Option Value} (x : h.Ns a m) (y : h.Ns a m') : m = m' := by
  refine Classical.byContradiction fun hG0 => ?_
  obtain ⟨o, es, ep, ho, hd, _, hf⟩ := x
  obtain ⟨o', es', ep', ho', hd', _, hf'⟩ := y
  refine hG0 ?_
  rw [ho] at ho'; cases ho'
  rw [hd] at hd'; cases hd'
  funext n; rw [← hf, ← hf']
theorem sameBut_goes {a : Addr} {h h' : Heap} {env : Env} (hs : Heap.SameBut a h h') (ha : FX env a) (al : ∃ o, h'.get? a = some o) : Goes (FX env) ρ h ρ h' :=
  ⟨List.prefix_refl _, fun _ h => .inl h, fun b o e _ nx => (hs.2 b fun q => nx (q ▸ ha)).trans e, fun b o e => by
    by_cases q : b = a
    · subst q; exact al
    · exact ⟨o, (hs.2 b q).trans e⟩⟩
/-- a store into a slot -/
theorem store_slot {i : Nat} {x : Str} (hc : isVar nm env.scope i x = true) (R : Rel B ρ σ s) (F : Frm B env nm η ρ s.heap) (m : VM B ρ v V) :
    WpA B A (storeName env x V) (fun _ s' => Goes (FX env) ρ s.heap ρ s'.heap ∧ Rel B ρ σ s' ∧ Frm B env nm (upd η i v) ρ s'.heap) s := by
  obtain ⟨h1, h2, h3⟩ := isVar_of hc
  have other : ∀ {j : Nat} {y : Str}, j ≠ i → nm[j]? = some y → y ≠ x := fun {j y} hj e q => by
    subst q
    obtain ⟨p, q⟩ := List.getElem?_eq_some_iff.mp h1
    obtain ⟨p', q'⟩ := List.getElem?_eq_some_iff.mp e
    exact hj ((List.getElem_inj F.nd).mp (q'.trans q.symm))
  rcases h2 with h2 | h2
  · obtain ⟨m0, hn⟩ := F.ns
    refine wpAny_storeName_local h2 hn (fun h' hn' hs => ?_) (by rw [F.kind]; rfl)
    have al : ∃ o, h'.get? env.locals = some o := by obtain ⟨o, _, _, ho, _⟩ := hn'; exact ⟨o, ho⟩
    have G := sameBut_goes (ρ := ρ) hs (.inl rfl : FX env env.locals) al
    refine ⟨G, R.stillBut (FX env) F.own (fun b o e nx => (hs.2 b fun q => nx (.inl q)).trans e) rfl rfl, ?_⟩
    have cellsKeep : ∀ y c, env.cells.lookup y = some c → ∀ o, s.heap.get? c = some o → h'.get? c = some o := fun y c e o q => (hs.2 c (F.sep y c e)).trans q
    refine ⟨F.kind, F.glob, F.blt, ⟨_, hn'⟩, fun y c e => ?_, F.have_, F.own, F.sep, F.apart, F.nd, fun j w e => ?_⟩
    · obtain ⟨u, n⟩ := F.cells y c e; exact ⟨u, cell_at n (cellsKeep y c e)⟩
    · unfold upd at e
      by_cases hj : j = i
      · rw [if_pos hj] at e; cases e; subst hj
        exact ⟨x, V, h1, .inl ⟨h2, _, hn', if_pos rfl⟩, m⟩
      · rw [if_neg hj] at e
        obtain ⟨y, W, q1, q2, q3⟩ := F.val j w e
        refine ⟨y, W, q1, ?_, q3⟩
        rcases q2 with ⟨a, m1, n1, e1⟩ | ⟨a, c, e1, n1⟩
        · obtain rfl := ns_det hn n1
          exact .inl ⟨a, _, hn', by rw [if_neg (other hj q1)]; exact e1⟩
        · exact .inr ⟨a, c, e1, cell_at n1 (cellsKeep y c e1)⟩
  · obtain ⟨c, hcell⟩ := F.have_ x h2
    obtain ⟨u, hu⟩ := F.cells x c hcell
    refine wpAny_storeName_cell F.kind h2 hcell hu fun h' hn' hs => ?_
    have al : ∃ o, h'.get? c = some o := by obtain ⟨o, ho, _⟩ := hn'; exact ⟨o, ho⟩
    have G := sameBut_goes (ρ := ρ) hs (.inr ⟨x, hcell⟩ : FX env c) al
    refine ⟨G, R.stillBut (FX env) F.own (fun b o e nx => (hs.2 b fun q => nx (.inr ⟨x, q ▸ hcell⟩)).trans e) rfl rfl, ?_⟩
    have nsKeep : ∀ m, s.heap.Ns env.locals m → h'.Ns env.locals m := fun m n => ns_at n fun o q => (hs.2 _ fun z => F.sep x c hcell z.symm).trans q
    have cellsKeep : ∀ y c', env.cells.lookup y = some c' → y ≠ x → ∀ o, s.heap.get? c' = some o → h'.get? c' = some o := fun y c' e hy o q => (hs.2 c' fun z => hy (F.apart y x c (z ▸ e) hcell)).trans q
    refine ⟨F.kind, F.glob, F.blt, let ⟨m, n⟩ := F.ns; ⟨m, nsKeep m n⟩, fun y c' e => ?_, F.have_, F.own, F.sep, F.apart, F.nd, fun j w e => ?_⟩
    · by_cases hy : y = x
      · subst hy; rw [hcell] at e; cases e; exact ⟨_, hn'⟩
      · obtain ⟨u', n⟩ := F.cells y c' e; exact ⟨u', cell_at n (cellsKeep y c' e hy)⟩
    · unfold upd at e
      by_cases hj : j = i
      · rw [if_pos hj] at e; cases e; subst hj
        exact ⟨x, V, h1, .inr ⟨h2, c, hcell, hn'⟩, m⟩
      · rw [if_neg hj] at e
        obtain ⟨y, W, q1, q2, q3⟩ := F.val j w e
        refine ⟨y, W, q1, ?_, q3⟩
        rcases q2 with ⟨a, m1, n1, e1⟩ | ⟨a, c', e1, n1⟩
        · exact .inl ⟨a, m1, nsKeep m1 n1, e1⟩
        · exact .inr ⟨a, c', e1, cell_at n1 (cellsKeep y c' e1 (other hj q1))⟩
theorem sx_asg {i : Nat} {e : E} (he : EvOK cl B O nm A e) : SxOK cl B O nm A (.asg i e) := fun ast env η σ fl η' σ' ρ s hc e R F => by
  refine chzS_asg hc fun x p val pos h' => ?_
  have h := A3 h'
  clear h'
  refine mapE e fun w σ1 e1 e2 => ?_
  cases e2
  have hs : swapsWith val (some (.Name x p)) pos.line env = pure false := by
    have h3 := h.2
    cases val <;> first | rfl | (exact absurd h3 Bool.false_ne_true) | skip
    rename_i elt gens scope q
    have h3 := (Bool.not_eq_true' _).mp h3
    have : (env.blockKind == .function && env.kindOf x == some .local && p.line == q.line && !(scope.names.any fun n => n.1 == x && (n.2 == .local || n.2 == .cell))) = false := by
      unfold Env.kindOf
      rw [Bool.and_assoc, Bool.and_assoc, ← Bool.and_assoc (env.scope.names.lookup x == some .local), h3, Bool.and_false]
    show ((pure (env.blockKind == .function && env.kindOf x == some .local && p.line == q.line && !(scope.names.any fun n => n.1 == x && (n.2 == .local || n.2 == .cell))) : Sem Bool)) = pure false
    rw [this]
  refine wpAny_Assign_Name (Wp.pv (he _ _ _ _ _ _ _ _ h.1.2 e1 R F) fun X s1 ρ1 G1 R1 m1 => ?_) hs
  exact Wp.mono (leaf (store_slot h.1.1 R1 (F.go G1) m1)) fun _ s2 ⟨G2, R2, F2⟩ => ⟨ρ1, G1.any.trans G2, R2, F2, rfl⟩
theorem sx_ret {e : E} (he : EvOK cl B O nm A e) : SxOK cl B O nm A (.ret e) := fun ast env η σ fl η' σ' ρ s hc e R F => by
  refine chzS_ret hc fun val pos hc => ?_
  refine mapE e fun w σ1 e1 e2 => ?_
  cases e2
  exact wpAny_Return_some (Wp.pv (he _ _ _ _ _ _ _ _ hc e1 R F) fun X s1 ρ1 G1 R1 m1 => ⟨ρ1, G1.any, R1, F.go G1, X, rfl, m1⟩)
theorem sx_exp {e : E} (he : EvOK cl B O nm A e) : SxOK cl B O nm A (.exp e) := fun ast env η σ fl η' σ' ρ s hc e R F => by
  refine chzS_exp hc fun val pos hc => ?_
  have h := andS hc
  refine bindE e fun w σ1 e1 e2 => ?_
  cases w <;> first | (exact nn e2) | skip
  cases e2
  refine wpAny_Expr (Wp.pv (he _ _ _ _ _ _ _ _ h.1 e1 R F) fun X s1 ρ1 G1 R1 m1 => ?_) ?_ ?_
  · cases m1; exact ⟨ρ1, G1.any, R1, F.go G1, rfl⟩
  · unfold interactive; rw [F.kind]; rfl
  · have h2 := h.2
    cases val <;> first | rfl | (exact absurd h2 Bool.false_ne_true)
theorem sx_iff {c : E} {a b : Ss} (hc' : TsOK cl B O nm A c) (ha : SsOK cl B O nm A a) (hb : SsOK cl B O nm A b) : SxOK cl B O nm A (.iff c a b) := fun ast env η σ fl η' σ' ρ s hc e R F => by
  refine chzS_iff hc fun t x y pos h => ?_
  have h := A3 h
  refine bindE e fun w σ1 e1 e2 => ?_
  dsimp only at e2
  split at e2
  · refine wpAny_If (Wp.mono (hc' _ _ _ _ _ _ _ _ h.1.1 e1 R F) fun b s1 ⟨q, ρ1, G1, R1⟩ => ?_)
    subst q
    exact Wp.mono (ha _ _ _ _ _ _ _ _ _ h.1.2 e2 R1 (F.go G1)) fun f s2 h2 => h2.after G1.any
  · refine wpAny_If (Wp.mono (hc' _ _ _ _ _ _ _ _ h.1.1 e1 R F) fun b s1 ⟨q, ρ1, G1, R1⟩ => ?_)
    subst q
    exact Wp.mono (hb _ _ _ _ _ _ _ _ _ h.2 e2 R1 (F.go G1)) fun f s2 h2 => h2.after G1.any
  · first | exact nn e2 | cases e2
theorem ss_nil : SsOK cl B O nm A .nil := fun asts env η σ fl η' σ' ρ s hc e R F => by
  obtain rfl := chkSs_nil hc
  cases e
  exact wpAny_execs_nil ⟨ρ, .refl, R, F, rfl⟩
theorem ss_cons {a : S} {r : Ss} (ha : SxOK cl B O nm A a) (hr : SsOK cl B O nm A r) : SsOK cl B O nm A (.cons a r) := fun asts env η σ fl η' σ' ρ s hc e R F => by
  refine Classical.byContradiction fun hG0 => ?_
  obtain ⟨x, xs, rfl, hc⟩ := chkSs_cons hc
  have h := andS hc
  obtain ⟨⟨f1, η1, σ1⟩, e1, e2⟩ := Option.bind_eq_some_iff.mp e
  refine hG0 ?_
  refine wpAny_execs_cons (Wp.mono (ha _ _ _ _ _ _ _ _ _ h.1 e1 R F) fun f s1 ⟨ρ1, G1, R1, F1, m1⟩ => ?_)
  cases f1 with
  | next =>
    cases m1
    exact Wp.mono (hr _ _ _ _ _ _ _ _ _ h.2 e2 R1 F1) fun f s2 h2 => h2.after G1
  | ret v =>
    obtain ⟨V, rfl, m⟩ := m1
    cases e2
    exact ⟨ρ1, G1, R1, F1, V, rfl, m⟩
theorem sx_raise : SxOK cl B O nm A .raise := fun ast env η σ fl η' σ' ρ s hc e R F => by cases e
end
end Tk

namespace Tk
open PySem PySem.W PyProof.Rows PySem.Calls
section
variable {cl : Bool} {B : Bs} {O : Orc} {nm : List Str} {A : Around} {env : Env} {η η' : En} {σ σ' σ₁ : St} {ρ ρ' : List Addr} {s s' : Shared} {v : AV} {V : Value}

/-- an item stored in a list, the object told exactly -/
theorem setItem_exact {l : Addr} {items : Array Value} {n : Nat} {k : Int} {t : Tok} {W : Value} {Q : Unit → Shared → Prop} (hl : IsL s.heap l items n) (h0 : 0 ≤ k) (hfit : k < 2 ^ 63) (hn : k < items.size)
    (hQ : Q () { s with heap := s.heap.update l (Obj.mapSeq (·.setIfInBounds k.toNat W)) }) : WpA B A (setItem (.ref l) (.int k t) W) Q s := by
  have hT := hl.isList.typeIs (s := s)
  unfold setItem
  try with_reducible refine PySem.wpAny_holding ?_
  refine PySem.wpAny_bind (wpAny_sequenceKey hT (by decide) ?_)
  refine PySem.wpAny_bind (wpAny_callSpecial?_slot (name := Str.ofString "__setitem__") hT slot_list_setitem (wpAny_call_entry slot_list_setitem hT entry_list_setitem ?_ (args_list_setitem _ _ _)))
  show wpAny _ _ (Builtin.List.listSubscript? (.int k t) >>= _) _ _ s
  refine PySem.wpAny_bind (wpAny_listSubscript_int (fitsIndex_of h0 hfit) ?_)
  clear hfit
  obtain ⟨j, rfl⟩ := Int.eq_ofNat_of_zero_le h0
  have hx' : items[j]? = some items[j] := Array.getElem?_eq_getElem (by (first | lia | omega))
  show wpAny _ _ ((seqItemAt l j >>= fun r => pure (r.map (j, ·))) >>= _) _ _ s
  refine PySem.wpAny_bind (PySem.wpAny_bind (wpAny_seqItemAt hl rfl (PySem.wpAny_pure ?_)))
  rw [hx']
  show wpAny _ _ (setSeqItemAt l j W >>= _) _ _ s
  refine PySem.wpAny_bind (wpAny_setSeqItemAt hl rfl ?_)
  first
    | exact PySem.wpAny_bind (PySem.wpAny_pure (PySem.wpAny_pure ⟨.none, rfl, PySem.wpAny_pure hQ⟩))
    | exact PySem.wpAny_pure ⟨.none, rfl, PySem.wpAny_pure hQ⟩

/-- an object of the call's own changed -/
theorem Rel.put {n : Nat} {a : Addr} {ao : AO} {h' : Heap} {tk : Nat} (R : Rel B ρ σ s) (ha : ρ[n]? = some a) (hn : OM B ρ h' a ao) (hs : ∀ b, b ≠ a → h'.get? b = s.heap.get? b) : Rel B ρ (σ.set n ao) { s with heap := h', toks := tk } where
  len := by rw [List.length_set]; exact R.len
  nd := R.nd
  lo := R.lo
  obj := fun i b o h1 h2 => by
    by_cases hi : i = n
    · subst hi
      rw [ha] at h1; cases h1
      rw [List.getElem?_set_self (by rw [← R.len]; exact (List.getElem?_eq_some_iff.mp ha).1)] at h2
      cases h2; exact hn
    · rw [List.getElem?_set_ne (Ne.symm hi)] at h2
      refine (R.obj i b o h1 h2).pre (List.prefix_refl _) (hs b fun q => hi ?_)
      subst q
      obtain ⟨p, q⟩ := List.getElem?_eq_some_iff.mp h1
      obtain ⟨p', q'⟩ := List.getElem?_eq_some_iff.mp ha
      exact (List.getElem_inj R.nd).mp (q.trans q'.symm)
  keep := fun b o e => (hs b fun q => by rw [← q, ] at ha; rw [R.lo b (List.mem_of_getElem? ha)] at e; cases e).trans (R.keep b o e)
  gens := R.gens
  os := R.os
theorem goes_put {X : Addr → Prop} {n : Nat} {a : Addr} {h h' : Heap} (ha : ρ[n]? = some a) (al : ∃ o, h'.get? a = some o) (hs : ∀ b, b ≠ a → h'.get? b = h.get? b) : Goes X ρ h ρ h' :=
  ⟨List.prefix_refl _, fun _ h => .inl h, fun b o e nb _ => (hs b fun q => nb (q ▸ List.mem_of_getElem? ha)).trans e, fun b o e => by
    by_cases q : b = a
    · subst q; exact al
    · exact ⟨o, (hs b q).trans e⟩⟩
theorem update_other {h : Heap} {a : Addr} (f : Obj → Obj) : ∀ b, b ≠ a → (h.update a f).get? b = h.get? b := fun b hb => Heap.get?_update_other h f (Ne.symm hb)
theorem set_ints {vs : List Value} {xs : List Int} (h : IntsAre vs xs) (k : Nat) (c : Int) (t : Tok) : IntsAre (vs.set k (.int c t)) (xs.set k c) := by
  induction h generalizing k with
  | nil => exact .nil
  | @cons n u vs ns hr ih =>
    cases k with
    | zero => exact .cons c t hr
    | succ k => exact .cons n u (ih k)
theorem sole_sub {ob ix val : Expr} {p : Pos} {l : Nat} {env : Env} (h : noComp val = true) : swapsWithSole [.Subscript ob ix p] val l env = pure false := by
  cases val <;> first | rfl | (exact absurd h Bool.false_ne_true)
theorem swapped_sub {ob ix val : Expr} {p : Pos} {env : Env} : swappedStores [.Subscript ob ix p] val env = pure none := by cases val <;> rfl
theorem sx_setItem {o i e : E} (ho : EvOK cl B O nm A o) (hi : EvOK cl B O nm A i) (he : EvOK cl B O nm A e) : SxOK cl B O nm A (.setItem o i e) := fun ast env η σ fl η' σ' ρ s hc e R F => by
  refine chzS_setItem hc fun ob ix p val pos h => ?_
  refine B5 h fun h1 h2 h3 h4 h5 => ?_
  refine bindE e fun x σ1 e1 e => ?_
  refine bindE e fun y σ2 e2 e => ?_
  refine bindE e fun z σ3 e3 e => ?_
  obtain ⟨c, rfl⟩ : ∃ c, x = .int c := by cases x <;> first | exact ⟨_, rfl⟩ | (exact nn e)
  obtain ⟨k, rfl⟩ : ∃ c, z = .int c := by cases z <;> first | exact ⟨_, rfl⟩ | (exact nn e)
  refine mapE1 e fun τ e4 e5 => ?_
  cases e5
  refine wpAny_Assign_stores (targets := [.Subscript ob ix p]) (Wp.pv (he _ _ _ _ _ _ _ _ h5 e1 R F) fun X s1 ρ1 G1 R1 m1 => ?_) (sole_sub h2) swapped_sub
  show Wp cl B A (assign (.Subscript ob ix p) env X) _ s1
  rw [arm_assign_Subscript]
  refine wpAny_bind (wpAny_holding (Wp.pv (ho _ _ _ _ _ _ _ _ h3 e2 R1 (F.go G1)) fun Y s2 ρ2 G2 R2 m2 => ?_))
  refine wpAny_bind (wpAny_holding (Wp.pv (hi _ _ _ _ _ _ _ _ h4 e3 R2 ((F.go G1).go G2)) fun Z s3 ρ3 G3 R3 m3 => ?_))
  obtain ⟨u, rfl⟩ := m1
  obtain ⟨w, rfl⟩ := m3
  have F3 := ((F.go G1).go G2).go G3
  refine wpAny_bind (wpAny_standAt (wpAny_bind (wpAny_holding ?_)))
  have m2' := m2.pre G3.pre
  clear hc h3 h4 h5 e1 e2 e3 e
  obtain ⟨n, rfl⟩ : ∃ c, y = .lab c := by cases y <;> first | exact ⟨_, rfl⟩ | (exact nn e4)
  unfold putItem at e4
  dsimp only at e4
  · split at e4
    · rename_i xs q1
      split at e4
      · rename_i hk
        cases e4
        obtain ⟨a, ha, rfl⟩ := m2'
        obtain ⟨vs, ep, ia, ja⟩ := R3.list_at ha q1
        have hsz : vs.toArray.size = xs.length := by rw [List.size_toArray, ja.length]
        have hz : k < 2 ^ 63 := by have := hk.2; unfold lineOf at this; (first | lia | omega)
        refine leaf (setItem_exact ia hk.1 hz (by rw [hsz]; exact hk.2.1) ?_)
        have new : OM B ρ3 (s3.heap.update a (Obj.mapSeq (·.setIfInBounds k.toNat (.int c u)))) a (.list (xs.set k.toNat c)) :=
          ⟨vs.set k.toNat (.int c u), ep, (Heap.get?_update_self _ ia rfl).trans (by simp [Obj.mapSeq]), set_ints ja _ _ _⟩
        have so : ∀ b, b ≠ a → (s3.heap.update a (Obj.mapSeq (·.setIfInBounds k.toNat (.int c u)))).get? b = s3.heap.get? b := update_other _
        refine wpAny_release ?_
        have G4 : Goes Non ρ3 s3.heap ρ3 (s3.heap.update a (Obj.mapSeq (·.setIfInBounds k.toNat (.int c u)))) := goes_put ha new.alive so
        exact ⟨ρ3, (((G1.trans G2).trans G3).trans G4).any, R3.put (tk := s3.toks) ha new so, F3.go G4, rfl⟩
      · first | exact nn e4 | cases e4
    · first | exact nn e4 | cases e4
end
end Tk

namespace Tk
open PySem PySem.W PyProof.Rows PySem.Calls
section
variable {cl : Bool} {B : Bs} {O : Orc} {nm : List Str} {A : Around} {env : Env} {η η' : En} {σ σ' σ₁ : St} {ρ ρ' : List Addr} {s s' : Shared} {v : AV} {V : Value}

/-- a field stored, the dict told exactly -/
theorem set_exact {K : Frag} {x C dx : Addr} {name : Str} {W : Value} {es : List DictEntry} {n : Nat} {Q : Unit → Shared → Prop} (X : K.In s.heap) (I : InstAt s.heap x (instObj C dx) C (some (dictOf es n)))
    (hs : findIn K (.ref C) "__setattr__" = some (some (.builtin "object.__setattr__"))) (hp : plainOver K C = true) (ht : takerIn K C name = some none) (hh : hasDictIn K C = true) (hl : (getL name es).isSome = true) (hz : (putL name (PyData.keyHash B.w.params name) (.str name (s.toks + 1)) W es).length ≤ 1000)
    (hQ : Q () { s with heap := s.heap.update dx (Obj.putName name (PyData.keyHash B.w.params name) (.str name (s.toks + 1)) W), toks := s.toks + 2 }) : WpA B A (setAttr (.ref x) name W) Q s := by
  refine set_plain X I hs (osa_open (s := { s with toks := s.toks + 1 }) X I hp ht fun b => ?_)
  obtain ⟨cd, hc, hd'⟩ := any_some hh
  have D : s.heap.get? dx = some (dictOf es n) := I.dict
  have hx := I.at_
  refine PySem.wpAny_bind (PySem.wpAny_pure (PySem.wpAny_bind (PySem.wpAny_bind (wpAny_loadPart hx (PySem.wpAny_bind (looks_clsIn X hc _ _ _ _ (fun _ _ e => e) ?_))))))
  rw [hd']
  refine PySem.wpAny_pure (a := some dx) (PySem.wpAny_bind (PySem.wpAny_pure (PySem.wpAny_bind ?_)))
  unfold nsSet
  refine PySem.wpAny_bind (PySem.wpAny_bind (wpAny_askSetting (PySem.wpAny_pure (PySem.wpAny_bind (wpAny_mkText (PySem.wpAny_bind (wpAny_loadPart D ?_)))))))
  dsimp only
  have c : (!es.toArray.any (·.key.isStr name) && es.toArray.any (·.refKey)) = false := by
    rw [← Array.any_toList, ← Array.any_toList]
    unfold getL at hl
    split at hl
    · rename_i en he
      rw [show es.toArray.toList = es from rfl, List.any_eq_true.mpr ⟨en, List.mem_of_find?_eq_some he, List.find?_some he⟩]; rfl
    · split at hl
      · cases hl
      · rename_i z; rw [Bool.not_eq_true] at z; rw [show es.toArray.toList = es from rfl, z, Bool.and_false]
  rw [aRefKeyMayBeTheName_at, c]
  refine wpAny_updatePart D ?_
  have D' : (s.heap.update dx (Obj.putName name (PyData.keyHash B.w.params name) (.str name (s.toks + 1)) W)).get? dx = some (dictOf (putL name (PyData.keyHash B.w.params name) (.str name (s.toks + 1)) W es) (putN name es n)) := by
    rw [← putName_dict]
    exact Heap.get?_update_self _ D (by rw [putName_dict]; rfl)
  refine PySem.wpAny_bind (wpAny_lookBehind D' (pastItsLine_dict (by rw [List.size_toArray, sizeLine_eq]; (first | lia | omega))) ?_)
  exact PySem.wpAny_pure hQ
theorem DM.length {fs es} (h : DM B ρ fs es) : fs.length = es.length := by
  induction h with
  | nil => rfl
  | cons _ _ _ _ ih => simp [ih]
theorem DM.put {fs es} (h : DM B ρ fs es) {a : Nat} {x : Str} (hx : attrNames[a]? = some x) (hv : VM B ρ v V) (hsh : Int) (t : Tok) : DM B ρ (putFld fs a v) (putL x hsh (.str x t) V es) := by
  induction h with
  | nil => exact .cons hx rfl hv .nil
  | @cons b w fs e es y t' h1 h2 h3 h4 ih =>
    unfold putFld putL
    rw [h2]
    by_cases hab : b = a
    · subst hab
      rw [h1] at hx; cases hx
      rw [if_pos rfl, show (Value.str x t').isStr x = true from beq_self_eq_true x, if_pos rfl]
      exact .cons h1 rfl hv h4
    · have : (Value.str y t').isStr x = false := by
        show (y == x) = false
        rw [beq_eq_false_iff_ne]
        intro q; subst q; exact hab (attr_inj h1 hx)
      rw [if_neg hab, this]
      exact .cons h1 h2 h3 ih
theorem putL_len (x : Str) (hsh : Int) (k W : Value) : ∀ es : List DictEntry, (putL x hsh k W es).length ≤ es.length + 1
  | [] => by simp [putL]
  | e :: r => by
    unfold putL
    have := putL_len x hsh k W r
    split <;> simp <;> (first | omega | lia)
theorem DM.isSome {fs es} (h : DM B ρ fs es) (x : Str) : (getL x es).isSome = true := by
  have hk : es.any (·.refKey) = false := by
    induction h with
    | nil => rfl
    | cons _ h2 _ _ ih => rw [List.any_cons, ih, Bool.or_false]; unfold DictEntry.refKey; rw [h2]
  unfold getL
  split
  · rfl
  · rw [hk]; rfl
theorem putAttr_some {x : AV} {a : Nat} {τ : St} (e : putAttr σ x a v = some τ) : ∃ n C d fs, x = .lab n ∧ σ[n]? = some (.inst C d) ∧ σ[d]? = some (.dict fs) ∧ fs.length ≤ 100 ∧ τ = σ.set d (.dict (putFld fs a v)) := by
  unfold putAttr at e
  split at e
  · split at e
    · split at e
      · split at e
        · cases e; exact ⟨_, _, _, _, rfl, ‹_›, ‹_›, ‹_›, rfl⟩
        · first | exact nn e | cases e
      · first | exact nn e | cases e
    · first | exact nn e | cases e
  · first | exact nn e | cases e
theorem set_attr {x : AV} {X : Value} {a : Nat} {name : Str} {τ : St} (K : B.Ok) (R : Rel B ρ σ s) (m : VM B ρ x X) (mv : VM B ρ v V) (hn : attrNames[a]? = some name) (e : putAttr σ x a v = some τ) :
    WpA B A (setAttr X name V) (fun _ s' => Goes Non ρ s.heap ρ s'.heap ∧ Rel B ρ τ s') s := by
  refine Classical.byContradiction fun hG0 => ?_
  obtain ⟨n, C, d, fs, rfl, h1, h2, h3, rfl⟩ := putAttr_some e
  obtain ⟨ai, ha, rfl⟩ := m
  obtain ⟨ad, es, k, I, D, hC, hd⟩ := inst_at R ha h1 h2
  obtain ⟨c1, c2, c3, c4, c5, c6⟩ := cls_facts B.w.params hC
  refine hG0 ?_
  have hdict : s.heap.get? ad = some (dictOf es k) := I.dict
  refine set_exact (K := FK B.w.params) (R.gr K).frag I c4 c5 (c6 _ (List.mem_of_getElem? hn)) c1 (D.isSome _) ?_ ?_
  · have := putL_len name (PyData.keyHash B.w.params name) (.str name (s.toks + 1)) V es
    have := D.length
    (first | lia | omega)
  · have so : ∀ b, b ≠ ad → (s.heap.update ad (Obj.putName name (PyData.keyHash B.w.params name) (.str name (s.toks + 1)) V)).get? b = s.heap.get? b := update_other _
    have D' : (s.heap.update ad (Obj.putName name (PyData.keyHash B.w.params name) (.str name (s.toks + 1)) V)).get? ad = some (dictOf (putL name (PyData.keyHash B.w.params name) (.str name (s.toks + 1)) V es) (putN name es k)) := by
      rw [← putName_dict]
      exact Heap.get?_update_self _ hdict (by rw [putName_dict]; rfl)
    exact ⟨goes_put hd ⟨_, D'⟩ so, R.put hd ⟨_, _, D', D.put hn mv _ _⟩ so⟩
theorem sole_attr {val : Expr} {x : Option Expr} {l : Nat} {env : Env} (h : noComp val = true) : swapsWith val x l env = pure false := by
  cases val <;> first | rfl | (exact absurd h Bool.false_ne_true)
theorem sx_setAttr {o e : E} {a : Nat} (K : B.Ok) (ho : EvOK cl B O nm A o) (he : EvOK cl B O nm A e) : SxOK cl B O nm A (.setAttr o a e) := fun ast env η σ fl η' σ' ρ s hc e R F => by
  refine chzS_setAttr hc fun ob name p val pos h => ?_
  refine B4 h fun h2 h3 h4 h5 => ?_
  refine bindE e fun x σ1 e1 e => ?_
  refine bindE e fun y σ2 e2 e => ?_
  refine mapE1 e fun τ e4 e5 => ?_
  cases e5
  refine plainObj_wpAny_Assign_Attribute (Wp.pv (he _ _ _ _ _ _ _ _ h5 e1 R F) fun X s1 ρ1 G1 R1 m1 => ?_) (sole_attr h2)
  refine Wp.pv (ho _ _ _ _ _ _ _ _ h3 e2 R1 (F.go G1)) fun Y s2 ρ2 G2 R2 m2 => ?_
  refine Wp.mono (leaf (set_attr K R2 m2 (m1.pre G2.pre) (beq_iff_eq.mp h4) e4)) fun _ s3 ⟨G3, R3⟩ => ?_
  exact ⟨ρ2, ((G1.trans G2).trans G3).any, R3, ((F.go G1).go G2).go G3, rfl⟩
theorem iintBin_ok {o : Op} {op : Operator} {a b c : Int} {t u : Tok} (ho : opIs o op = true) (hg : augOp o = true) (e : intBin o a b = some c) (R : Rel B ρ σ s) :
    WpA B A (inplaceOp op (.int a t) (.int b u)) (PV B ρ s σ (.int c)) s := by
  have fin : ∀ c' k, c' = c → PV B ρ s σ (.int c) (.int c' k) { s with toks := s.toks + 1 } := fun c' k q => (PV.now R (v := .int c) ⟨k, by rw [q]⟩).tok
  cases o <;> first | (cases hg; done) | skip
  all_goals (cases op <;> first | (exact absurd ho Bool.false_ne_true) | skip)
  · cases e; exact iadd_int (fin _ _ rfl)
  · cases e; exact isub_int (fin _ _ rfl)
  · simp only [intBin] at e
    split at e
    · cases e; exact imul_int (fin _ _ rfl) (intMulOk ‹_›)
    · first | exact nn e | cases e
  · simp only [intBin] at e
    split at e
    · rename_i q
      cases e; exact ilshift_int_small q.1 (by (first | omega | lia)) q.2.2 (fin _ _ rfl)
    · first | exact nn e | cases e
  · simp only [intBin] at e
    split at e
    · rename_i q
      cases e; exact irshift_int q (fin _ _ rfl)
    · first | exact nn e | cases e
theorem sx_aug {i : Nat} {o : Op} {e : E} (he : EvOK cl B O nm A e) : SxOK cl B O nm A (.aug i o e) := fun ast env η σ fl η' σ' ρ s hc e R F => by
  refine chzS_aug hc fun x p op val pos h => ?_
  refine B4 h fun h1 h2 h3 h4 => ?_
  refine bindE1 e fun w e1 e => ?_
  refine bindE e fun y σ2 e2 e => ?_
  obtain ⟨a, rfl⟩ : ∃ c, w = .int c := by cases w <;> first | exact ⟨_, rfl⟩ | (exact nn e)
  obtain ⟨b, rfl⟩ : ∃ c, y = .int c := by cases y <;> first | exact ⟨_, rfl⟩ | (exact nn e)
  refine mapE1 e fun c e3 e4 => ?_
  cases e4
  obtain ⟨q1, q2, q3⟩ := isVar_of h1
  obtain ⟨y', W, r1, r2, r3⟩ := F.val i _ e1
  rw [q1] at r1; cases r1
  refine wpAny_AugAssign_Name (leaf (load_name F.kind r2 (Wp.pv (he _ _ _ _ _ _ _ _ h3 e2 R F) fun Y s1 ρ1 G1 R1 m1 => ?_)))
  obtain ⟨t1, rfl⟩ := r3
  obtain ⟨t2, rfl⟩ := m1
  refine Wp.pv (leaf (iintBin_ok h2 h4 e3 R1)) fun Z s2 ρ2 G2 R2 m2 => ?_
  exact Wp.mono (leaf (store_slot h1 R2 ((F.go G1).go G2) m2)) fun _ s3 ⟨G3, R3, F3⟩ => ⟨ρ2, (G1.trans G2).any.trans G3, R3, F3, rfl⟩
theorem sx_augAttr {ob e : E} {a : Nat} {o : Op} (K : B.Ok) (ho : EvOK cl B O nm A ob) (he : EvOK cl B O nm A e) : SxOK cl B O nm A (.augAttr ob a o e) := fun ast env η σ fl η' σ' ρ s hc e R F => by
  refine chzS_augAttr hc fun x name p op val pos h => ?_
  refine B5 h fun h1 h2 h3 h4 h5 => ?_
  refine bindE e fun x' σ1 e1 e => ?_
  refine bindE1 e fun w e2 e => ?_
  refine bindE e fun y σ2 e3 e => ?_
  obtain ⟨i, rfl⟩ : ∃ c, w = .int c := by cases w <;> first | exact ⟨_, rfl⟩ | (exact nn e)
  obtain ⟨j, rfl⟩ : ∃ c, y = .int c := by cases y <;> first | exact ⟨_, rfl⟩ | (exact nn e)
  refine bindE1 e fun c e4 e => ?_
  refine mapE1 e fun τ e5 e6 => ?_
  cases e6
  refine wpAny_AugAssign_AttributeAny (Wp.pv (ho _ _ _ _ _ _ _ _ h1 e1 R F) fun X s1 ρ1 G1 R1 m1 => ?_)
  refine Wp.pv (leaf (get_attr K R1 m1 (beq_iff_eq.mp h2) e2)) fun W s2 ρ2 G2 R2 m2 => ?_
  refine Wp.pv (he _ _ _ _ _ _ _ _ h4 e3 R2 ((F.go G1).go G2)) fun Y s3 ρ3 G3 R3 m3 => ?_
  obtain ⟨t1, rfl⟩ := m2
  obtain ⟨t2, rfl⟩ := m3
  refine Wp.pv (leaf (iintBin_ok h3 h5 e4 R3)) fun Z s4 ρ4 G4 R4 m4 => ?_
  refine Wp.mono (leaf (set_attr K R4 (((m1.pre G2.pre).pre G3.pre).pre G4.pre) m4 (beq_iff_eq.mp h2) e5)) fun _ s5 ⟨G5, R5⟩ => ?_
  exact ⟨ρ4, ((((G1.trans G2).trans G3).trans G4).trans G5).any, R5, ((((F.go G1).go G2).go G3).go G4).go G5, rfl⟩
end
end Tk

namespace Tk
open PySem PySem.W PyProof.Rows PySem.Calls
section
variable {cl : Bool} {B : Bs} {O : Orc} {nm : List Str} {A : Around} {env : Env} {η η' : En} {σ σ' σ₁ : St} {ρ ρ' : List Addr} {s s' : Shared} {v : AV} {V : Value}

theorem len_two {α : Type} {l : List α} (h : l.length = 2) : ∃ a b, l = [a, b] := by
  match l, h with
  | [a, b], _ => exact ⟨a, b, rfl⟩
theorem len_three {α : Type} {l : List α} (h : l.length = 3) : ∃ a b c, l = [a, b, c] := by
  match l, h with
  | [a, b, c], _ => exact ⟨a, b, c, rfl⟩
/-! stores of several names -/
theorem upd_comm {i j : Nat} {a b : AV} (h : i ≠ j) : upd (upd η i a) j b = upd (upd η j b) i a := by
  funext k
  unfold upd
  by_cases h1 : k = i <;> by_cases h2 : k = j <;> simp_all
theorem slots_name : ∀ {is : List Nat} {ts : List Expr} {sc : Scope}, slotsOf nm sc is ts = true → is.length = ts.length ∧ ∀ t ∈ ts, ∃ x p, t = .Name x p
  | [], ts, _, h => by obtain rfl := emptyS h; exact ⟨rfl, fun _ h => absurd h List.not_mem_nil⟩
  | i :: is, ts', sc, h => by
    refine Classical.byContradiction fun hG0 => ?_
    obtain ⟨x, p, ts, rfl, h⟩ := slots_cons h
    obtain ⟨a, b⟩ := slots_name (Bool.and_eq_true_iff.mp h).2
    refine hG0 ?_
    refine ⟨by simp [a], fun u hu => ?_⟩
    rcases List.mem_cons.mp hu with rfl | hu
    · exact ⟨x, p, rfl⟩
    · exact b u hu
/-- one name after the other -/
theorem store_seq : ∀ {is : List Nat} {ts : List Expr} {vs : List AV} {Vs : List Value} {env : Env} {η : En} {s : Shared}, slotsOf nm env.scope is ts = true → is.length = vs.length → Rel B ρ σ s → Frm B env nm η ρ s.heap → VMs B ρ vs Vs →
    Wp cl B A (assignInOrder (ts.map fun t => assign t env) Vs) (fun _ s' => Goes (FX env) ρ s.heap ρ s'.heap ∧ Rel B ρ σ s' ∧ Frm B env nm (upds η is vs) ρ s'.heap) s
  | [], ts, vs, Vs, env, η, s, h, hl, R, F, m => by
    obtain rfl := emptyS h
    cases vs with
    | cons _ _ => cases hl
    | nil => cases m; exact wpAny_pure ⟨.refl, R, F⟩
  | i :: is, ts', vs, Vs, env, η, s, h, hl, R, F, m => by
    obtain ⟨x, p, ts, rfl, h⟩ := slots_cons h
    obtain ⟨h1, h2⟩ := Bool.and_eq_true_iff.mp h
    cases m with
    | nil => cases hl
    | @cons v V vs Vs mv ms =>
      show Wp cl B A (do holding Vs (assign (.Name x p) env V); assignInOrder (ts.map fun t => assign t env) Vs) _ s
      refine wpAny_bind (wpAny_holding (wpAny_assign_Name (Wp.mono (leaf (store_slot h1 R F mv)) fun _ s1 ⟨G1, R1, F1⟩ => ?_)))
      exact Wp.mono (store_seq h2 (by simpa using hl) R1 F1 ms) fun _ s2 ⟨G2, R2, F2⟩ => ⟨G1.trans G2, R2, F2⟩
noncomputable def nameId : Expr → Option Str
  | .Name x _ => some x
  | _ => none
theorem filt_full {f g : Expr → Option Str} (hfg : ∀ t x, f t = some x → g t = some x) : ∀ (l : List Expr), (l.filterMap f).length = l.length → l.filterMap f = l.filterMap g
  | [], _ => rfl
  | t :: r, h => by
    rw [List.filterMap_cons] at h ⊢
    rw [List.filterMap_cons]
    cases ht : f t with
    | none =>
      rw [ht] at h
      have := List.length_filterMap_le f r
      simp only [List.length_cons] at h
      (first | lia | omega)
    | some x =>
      rw [ht] at h
      rw [hfg t x ht, filt_full hfg r (by simpa using h)]
theorem swE {α : Type} {c Q : Prop} {_ : Decidable c} {n r b : α} (h : ¬ c → b = n ∨ (b = r ∧ Q)) : (if c then n else b) = n ∨ ((if c then n else b) = r ∧ Q) := by
  by_cases g : c
  · rw [if_pos g]; exact .inl rfl
  · rw [if_neg g]; exact h g
theorem ite_some {α : Type} {c : Prop} {_ : Decidable c} {x y : α} (h : (if c then some x else none) = some y) : c ∧ some x = some y := by
  by_cases g : c
  · rw [if_pos g] at h; exact ⟨g, h⟩
  · rw [if_neg g] at h; exact nn h
theorem swapped_cases {is : List Nat} {ts vs : List Expr} {env : Env} {k k' : Nat} {p q : Pos} (hk : env.scope.kind = .function) (h : slotsOf nm env.scope is ts = true) (hl : is.length = vs.length) (hc : constOk vs = true) :
    swappedStores [.Tuple ts k p] (.Tuple vs k' q) env = pure none ∨ (swappedStores [.Tuple ts k p] (.Tuple vs k' q) env = pure (some (ts.filterMap nameId)) ∧ (ts.length = 2 ∨ ts.length = 3)) := by
  refine swE fun g1 => swE fun g2 => swE fun g3 => swE fun g4 => .inr ⟨?_, ?_⟩
  · have hc := (Bool.and_eq_true_iff.mp hc).2
    rw [Bool.eq_false_iff.mpr g4, Bool.false_or] at hc
    refine (if_neg fun g5 => ?_).trans (congrArg (fun l => (pure (some l) : Sem (Option (List Str)))) (filt_full (fun t x ht => ?_) ts ?_))
    · rw [g5] at hc; exact Bool.false_ne_true hc
    · cases t <;> first | (exact nn ht) | skip
      exact (ite_some ht).2
    · exact Decidable.of_not_not fun q => g3 (Bool.or_eq_true_iff.mpr (.inl (bne_iff_ne.mpr q)))
  · by_cases h2 : ts.length = 2
    · exact .inl h2
    · by_cases h3 : ts.length = 3
      · exact .inr h3
      · exact absurd (by simp [h2, h3]) g1
theorem un_tuple {ts : List Expr} {Vs : List Value} {a : Addr} {Q : List Value → Shared → Prop} (hh : A.handled = none) (hn : ts.length = Vs.length) (ht : IsTup s.heap a Vs.toArray)
    (q : ∀ h', (∀ b o, s.heap.get? b = some o → h'.get? b = some o) → Q Vs { s with heap := h' }) : ∀ n, n = ts.length → Wp cl B A (unpackItems (.ref a) n none) Q s := fun n e => by
  subst e
  rw [show ts.length = Vs.toArray.size by rw [List.size_toArray]; exact hn]
  exact leaf (unpackItems_tuple hh ht fun h' he => q h' fun b o e => he b o (fun z => by rw [z, get_size] at e; cases e) e)
theorem assign_tuple {is : List Nat} {ts : List Expr} {vs : List AV} {Vs : List Value} {k : Nat} {p : Pos} {a : Addr} (hh : A.handled = none) (h : slotsOf nm env.scope is ts = true) (hl : is.length = vs.length)
    (R : Rel B ρ σ s) (F : Frm B env nm η ρ s.heap) (m : VMs B ρ vs Vs) (ht : IsTup s.heap a Vs.toArray) :
    Wp cl B A (assign (.Tuple ts k p) env (.ref a)) (fun _ s' => Goes (FX env) ρ s.heap ρ s'.heap ∧ Rel B ρ σ s' ∧ Frm B env nm (upds η is vs) ρ s'.heap) s := by
  have hn : ts.length = Vs.length := by rw [← (slots_name h).1, hl, m.length]
  rw [arm_assign_Tuple]
  refine wpAny_bind (wpAny_standAt ?_)
  have he : ∀ (ts : List Expr), (∀ t ∈ ts, ∃ x p, t = .Name x p) → assignEach ts env = ts.map fun t => (false, assign t env) := by
    intro ts
    induction ts with
    | nil => intro _; rfl
    | cons t r ih =>
      intro hq
      obtain ⟨x, p, rfl⟩ := hq t List.mem_cons_self
      show (false, assign (.Name x p) env) :: assignEach r env = _
      rw [ih fun t ht => hq t (List.mem_cons_of_mem _ ht)]; rfl
  rw [he ts (slots_name h).2]
  unfold unpack
  have hf : (ts.map fun t => (false, assign t env)).findIdx? (·.1) = none := by
    rw [List.findIdx?_eq_none_iff]
    intro x hx
    obtain ⟨t, _, rfl⟩ := List.mem_map.mp hx
    rfl
  rw [hf]
  refine wpAny_bind (wpAny_holding (un_tuple hh hn ht (fun h' hk => ?_) _ (by rw [List.length_map])))
  have R' : Rel B ρ σ { s with heap := h' } := R.still hk rfl rfl
  have F' : Frm B env nm η ρ h' := F.keeps (List.prefix_refl _) (fun _ h => .inl h) fun b o _ e => hk b o e
  rw [List.map_map]
  exact Wp.mono (store_seq (s := { s with heap := h' }) h hl R' F' m) fun _ s2 ⟨G2, R2, F2⟩ => ⟨(goes_keeps hk).trans G2, R2, F2⟩
/-- the stores of a tuple's items, in whatever order the machine takes -/
theorem store_tuple {is : List Nat} {ts : List Expr} {vs : List AV} {Vs : List Value} {swapped : Option (List Str)} {k : Nat} {p : Pos} {a : Addr} (hh : A.handled = none) (h : slotsOf nm env.scope is ts = true) (hnd : is.Nodup) (hl : is.length = vs.length)
    (hsw : swapped = none ∨ (swapped = some (ts.filterMap nameId) ∧ (ts.length = 2 ∨ ts.length = 3))) (R : Rel B ρ σ s) (F : Frm B env nm η ρ s.heap) (m : VMs B ρ vs Vs) (ht : IsTup s.heap a Vs.toArray) :
    Wp cl B A (assignStores env (.ref a) swapped ((assignEach [.Tuple ts k p] env).map (·.2))) (fun f s' => f = .next ∧ Goes (FX env) ρ s.heap ρ s'.heap ∧ Rel B ρ σ s' ∧ Frm B env nm (upds η is vs) ρ s'.heap) s := by
  have hn : ts.length = Vs.length := by rw [← (slots_name h).1, hl, m.length]
  have un : ∀ {Q : List Value → Shared → Prop}, (∀ h', (∀ b o, s.heap.get? b = some o → h'.get? b = some o) → Q Vs { s with heap := h' }) → ∀ n, n = ts.length → Wp cl B A (unpackItems (.ref a) n none) Q s := fun {Q} q n e => un_tuple hh hn ht q n e
  rcases hsw with rfl | ⟨rfl, h23⟩
  · show Wp cl B A (do assignAll (.ref a) [assign (.Tuple ts k p) env]; pure Flow.next) _ s
    refine wpAny_bind ?_
    exact Wp.mono (assign_tuple hh h hl R F m ht) fun _ s2 ⟨G2, R2, F2⟩ => wpAny_pure ⟨rfl, G2, R2, F2⟩
  · show Wp cl B A (do rule "assign.swapped-stores"; let items ← unpackItems (.ref a) (ts.filterMap nameId).length none; assignInOrder ((ts.filterMap nameId).reverse.map fun n => bindName env n) items.reverse; pure Flow.next) _ s
    have hlen : (ts.filterMap nameId).length = ts.length := by
      have : ∀ (ts : List Expr), (∀ t ∈ ts, ∃ x p, t = .Name x p) → (ts.filterMap nameId).length = ts.length := by
        intro ts
        induction ts with
        | nil => intro _; rfl
        | cons t r ih =>
          intro hq
          obtain ⟨x, p, rfl⟩ := hq t List.mem_cons_self
          show (x :: r.filterMap nameId).length = _
          simp [ih fun t ht => hq t (List.mem_cons_of_mem _ ht)]
      exact this ts (slots_name h).2
    refine wpAny_bind (wpAny_rule (wpAny_bind (un (fun h' hk => ?_) _ hlen)))
    have R' : Rel B ρ σ { s with heap := h' } := R.still hk rfl rfl
    have F' : Frm B env nm η ρ h' := F.keeps (List.prefix_refl _) (fun _ h => .inl h) fun b o _ e => hk b o e
    rcases h23 with h2 | h3
    · obtain ⟨t1, t2, rfl⟩ := len_two h2
      obtain ⟨i, j, rfl⟩ := len_two ((slots_name h).1.trans h2)
      obtain ⟨v1, v2, rfl⟩ := len_two hl.symm
      cases m with
      | @cons _ V1 _ _ m1 m =>
      cases m with
      | @cons _ V2 _ _ m2 m =>
        cases m
        obtain ⟨_, hq⟩ := slots_name h
        obtain ⟨x, p1, rfl⟩ := hq t1 (by simp)
        obtain ⟨y, p2, rfl⟩ := hq t2 (by simp)
        have h : (isVar nm env.scope i x && (isVar nm env.scope j y && true)) = true := h
        simp only [Bool.and_eq_true] at h
        have hij : i ≠ j := by simp at hnd; exact hnd
        show Wp cl B A ((do holding [V1] (bindName env y V2); holding [] (bindName env x V1); pure ()) >>= _) _ _
        refine wpAny_bind (wpAny_bind (wpAny_holding (wpAny_bindName (Wp.mono (leaf (store_slot (s := { s with heap := h' }) h.2.1 R' F' m2)) fun _ s1 ⟨G1, R1, F1⟩ => ?_))))
        refine wpAny_bind (wpAny_holding (wpAny_bindName (Wp.mono (leaf (store_slot h.1 R1 F1 m1)) fun _ s2 ⟨G2, R2, F2⟩ => ?_)))
        refine wpAny_pure (wpAny_pure ⟨rfl, ((goes_keeps hk).trans G1).trans G2, R2, ?_⟩)
        show Frm B env nm (upd (upd η i v1) j v2) ρ s2.heap
        rw [upd_comm hij]; exact F2
    · obtain ⟨t1, t2, t3, rfl⟩ := len_three h3
      obtain ⟨i, j, k, rfl⟩ := len_three ((slots_name h).1.trans h3)
      obtain ⟨v1, v2, v3, rfl⟩ := len_three hl.symm
      cases m with
      | @cons _ V1 _ _ m1 m =>
      cases m with
      | @cons _ V2 _ _ m2 m =>
      cases m with
      | @cons _ V3 _ _ m3 m =>
        cases m
        obtain ⟨_, hq⟩ := slots_name h
        obtain ⟨x, p1, rfl⟩ := hq t1 (by simp)
        obtain ⟨y, p2, rfl⟩ := hq t2 (by simp)
        obtain ⟨z, p3, rfl⟩ := hq t3 (by simp)
        have h : (isVar nm env.scope i x && (isVar nm env.scope j y && (isVar nm env.scope k z && true))) = true := h
        simp only [Bool.and_eq_true] at h
        simp at hnd
        show Wp cl B A ((do holding [V2, V1] (bindName env z V3); holding [V1] (bindName env y V2); holding [] (bindName env x V1); pure ()) >>= _) _ _
        refine wpAny_bind (wpAny_bind (wpAny_holding (wpAny_bindName (Wp.mono (leaf (store_slot (s := { s with heap := h' }) h.2.2.1 R' F' m3)) fun _ s1 ⟨G1, R1, F1⟩ => ?_))))
        refine wpAny_bind (wpAny_holding (wpAny_bindName (Wp.mono (leaf (store_slot h.2.1 R1 F1 m2)) fun _ s2 ⟨G2, R2, F2⟩ => ?_)))
        refine wpAny_bind (wpAny_holding (wpAny_bindName (Wp.mono (leaf (store_slot h.1 R2 F2 m1)) fun _ s3 ⟨G3, R3, F3⟩ => ?_)))
        refine wpAny_pure (wpAny_pure ⟨rfl, (((goes_keeps hk).trans G1).trans G2).trans G3, R3, ?_⟩)
        show Frm B env nm (upd (upd (upd η i v1) j v2) k v3) ρ s3.heap
        have e : upd (upd (upd η i v1) j v2) k v3 = upd (upd (upd η k v3) j v2) i v1 := by
          rw [upd_comm (i := i) (j := j) hnd.1.1, upd_comm (i := i) (j := k) hnd.1.2, upd_comm (i := j) (j := k) hnd.2]
        rw [e]; exact F3
theorem tuple_eval {es : Es} {xs : List Expr} {k : Nat} {p : Pos} {vs : List AV} {Q : Value → Shared → Prop} (hs : EsOK cl B O nm A es) (hc : chks nm env.scope es xs = true) (hz : xs.length ≤ 100) (e1 : evs O B.ns prices es η σ = some (vs, σ₁)) (R : Rel B ρ σ s) (F : Frm B env nm η ρ s.heap)
    (q : ∀ a Vs s1 ρ1, Goes Non ρ s.heap ρ1 s1.heap → Rel B ρ1 σ₁ s1 → VMs B ρ1 vs Vs → IsTup s1.heap a Vs.toArray → Q (.ref a) s1) : Wp cl B A (eval (.Tuple xs k p) env) Q s := by
  refine wpAny_Tuple (Wp.pvs (hs _ _ _ _ _ _ _ _ _ hc e1 R F) fun Vs s2 ρ2 G2 R2 m2 => ⟨?_, ?_⟩)
  · rw [← m2.length, evs_len hc e1]; exact Nat.le_trans hz (by decide)
  · exact q _ Vs _ ρ2 (G2.trans (goes_keeps fun b o e => Heap.get?_push_of_some _ e)) (R2.still (fun b o e => Heap.get?_push_of_some _ e) rfl rfl) m2 ⟨_, Heap.get?_push_size _ rfl, rfl, _, rfl⟩
theorem sx_asgs {is : List Nat} {es : Es} (hr : Room A 0) (hs : EsOK cl B O nm A es) : SxOK cl B O nm A (.asgs is es) := fun ast env η σ fl η' σ' ρ s hc e R F => by
  refine Classical.byContradiction fun hG0 => ?_
  obtain ⟨ts, k, p, xs, k', q, pos, rfl, h⟩ := chkS_asgs hc
  obtain ⟨⟨⟨⟨h1, h2⟩, h3⟩, h4⟩, h5⟩ := A5 h
  refine hG0 ?_
  have h3 := of_decide_eq_true h3
  have h4 := of_decide_eq_true h4
  refine mapE e fun vs σ1 e1 e2 => ?_
  cases e2
  have hsw := swapped_cases (k := k) (k' := k') (p := p) (q := q) F.kind h1 h4 h5
  have hl : is.length = vs.length := by rw [h4, evs_len h2 e1]
  have hz : xs.length ≤ 100 := by have := (Bool.and_eq_true_iff.mp h5).1; simpa using this
  · rw [exec_Assign]
    refine wpAny_bind (wpAny_standAt ?_)
    rw [show swapsWithSole [.Tuple ts k p] (.Tuple xs k' q) pos.line env = pure false from rfl]
    refine wpAny_bind (wpAny_pure ?_)
    rw [if_neg (by decide)]
    refine wpAny_bind (tuple_eval hs h2 hz e1 R F fun a Vs s1 ρ1 G1 R1 m1 ht => ?_)
    rcases hsw with hw | ⟨hw, h23⟩
    · rw [hw]
      exact wpAny_bind (wpAny_pure (Wp.mono (store_tuple hr.handled h1 h3 hl (.inl rfl) R1 (F.go G1) m1 ht) fun f s2 ⟨q, G2, R2, F2⟩ => ⟨ρ1, G1.any.trans G2, R2, F2, q⟩))
    · rw [hw]
      exact wpAny_bind (wpAny_pure (Wp.mono (store_tuple hr.handled h1 h3 hl (.inr ⟨rfl, h23⟩) R1 (F.go G1) m1 ht) fun f s2 ⟨q, G2, R2, F2⟩ => ⟨ρ1, G1.any.trans G2, R2, F2, q⟩))
theorem sx_asgIf {is : List Nat} {c : E} {a b : Es} (hr : Room A 0) (hc' : TsOK cl B O nm A c) (ha : EsOK cl B O nm A a) (hb : EsOK cl B O nm A b) : SxOK cl B O nm A (.asgIf is c a b) := fun ast env η σ fl η' σ' ρ s hc e R F => by
  refine chzS_asgIf hc fun ts k p tst xs k1 p1 ys k2 p2 q pos h => ?_
  refine Classical.byContradiction fun hG0 => ?_
  obtain ⟨⟨⟨⟨⟨⟨⟨h1, h2⟩, h3⟩, h4⟩, h5⟩, h6⟩, h7⟩, h8⟩ := A8 h
  refine hG0 ?_
  have h5 := of_decide_eq_true h5
  have h6 := of_decide_eq_true h6
  have h7 := of_decide_eq_true h7
  have h8 := of_decide_eq_true h8
  refine bindE e fun w σ1 e1 e2 => ?_
  rw [exec_Assign]
  refine wpAny_bind (wpAny_standAt ?_)
  rw [show swapsWithSole [.Tuple ts k p] (.IfExp tst (.Tuple xs k1 p1) (.Tuple ys k2 p2) q) pos.line env = pure false from rfl]
  refine wpAny_bind (wpAny_pure ?_)
  rw [if_neg (by decide)]
  rw [show swappedStores [.Tuple ts k p] (.IfExp tst (.Tuple xs k1 p1) (.Tuple ys k2 p2) q) env = pure none from rfl]
  dsimp only at e2
  split at e2
  · refine mapE e2 fun vs σ2 e3 e4 => ?_
    cases e4
    refine wpAny_bind (wpAny_IfExp (Wp.mono (hc' _ _ _ _ _ _ _ _ h2 e1 R F) fun b s1 ⟨q, ρ1, G1, R1⟩ => ?_))
    subst q
    refine tuple_eval ha h3 (by (first | omega | lia)) e3 R1 (F.go G1) fun a Vs s2 ρ2 G2 R2 m2 ht => ?_
    exact wpAny_bind (wpAny_pure (Wp.mono (store_tuple hr.handled h1 h5 (by rw [h6, evs_len h3 e3]) (.inl rfl) R2 ((F.go G1).go G2) m2 ht) fun f s3 ⟨q, G3, R3, F3⟩ => ⟨ρ2, (G1.trans G2).any.trans G3, R3, F3, q⟩))
  · refine mapE e2 fun vs σ2 e3 e4 => ?_
    cases e4
    refine wpAny_bind (wpAny_IfExp (Wp.mono (hc' _ _ _ _ _ _ _ _ h2 e1 R F) fun b s1 ⟨q, ρ1, G1, R1⟩ => ?_))
    subst q
    refine tuple_eval hb h4 (by (first | omega | lia)) e3 R1 (F.go G1) fun a Vs s2 ρ2 G2 R2 m2 ht => ?_
    exact wpAny_bind (wpAny_pure (Wp.mono (store_tuple hr.handled h1 h5 (by rw [h7, evs_len h4 e3]) (.inl rfl) R2 ((F.go G1).go G2) m2 ht) fun f s3 ⟨q, G3, R3, F3⟩ => ⟨ρ2, (G1.trans G2).any.trans G3, R3, F3, q⟩))
  · first | exact nn e2 | cases e2
end
end Tk

namespace Tk
open PySem PySem.W PyProof.Rows PySem.Calls
section
variable {cl : Bool} {B : Bs} {O : Orc} {nm : List Str} {A : Around} {env : Env} {η η' : En} {σ σ' σ₁ : St} {ρ ρ' : List Addr} {s s' : Shared} {v : AV} {V : Value}

theorem Wp.noted {α : Type} {t : Sem α} {Q : α → Shared → Prop} (h : Wp cl B A t Q s) : Wp cl B A t Q s := h
/-- an iterator at work: I its own objects, P where it stands, VI what it hands out -/
structure Iter (cl : Bool) (B : Bs) (A : Around) (target : Expr) (itv : Value) (l : List Int) (ok : St → Bool) (ρ₁ : List Addr) (I : Addr → Prop) (P : Nat → Heap → Prop) (VI : Int → Nat → Value → Heap → Prop) : Prop where
  item : ∀ (i : Nat) ρ σ s x, l[i]? = some x → ok σ = true → ρ₁ <+: ρ → Rel B ρ σ s → P i s.heap → (∀ b, I b → b ∉ ρ) → Wp cl B A (pyNext itv) (fun r s' => ∃ V, r = some V ∧ Wp cl B A (letOwnedTupleGo target itv V) (fun _ s' => VI x i V s'.heap ∧ P (i + 1) s'.heap ∧ (∀ b o, s.heap.get? b = some o → ¬ I b → s'.heap.get? b = some o) ∧ s'.gens = s.gens ∧ s'.os = s.os) s') s
  fin : ∀ (i : Nat) ρ σ s, l[i]? = none → ok σ = true → ρ₁ <+: ρ → Rel B ρ σ s → P i s.heap → (∀ b, I b → b ∉ ρ) → Wp cl B A (pyNext itv) (fun r s' => r = none ∧ (∀ b o, s.heap.get? b = some o → ¬ I b → s'.heap.get? b = some o) ∧ s'.gens = s.gens ∧ s'.os = s.os) s
  stay : ∀ i h h', P i h → (∀ b o, I b → h.get? b = some o → h'.get? b = some o) → P i h'
  alive : ∀ i h b, P i h → I b → ∃ o, h.get? b = some o
  self : ∀ i (s : Shared) (Q : Value → Shared → Prop), P i s.heap → Q itv s → Wp cl B A (pyIter itv) Q s
noncomputable abbrev Or (X Y : Addr → Prop) : Addr → Prop := fun b => X b ∨ Y b
theorem but_goes {I : Addr → Prop} {h h' : Heap} {X : Addr → Prop} (k : ∀ b o, h.get? b = some o → ¬ I b → h'.get? b = some o) (al : ∀ b, I b → ∃ o, h'.get? b = some o) : Goes (Or X I) ρ h ρ h' :=
  ⟨List.prefix_refl _, fun _ h => .inl h, fun b o e _ nx => k b o e fun q => nx (.inr q), fun b o e => by
    by_cases q : I b
    · exact al b q
    · exact ⟨o, k b o e q⟩⟩
theorem Goes.drop {I X : Addr → Prop} {h h' : Heap} (G : Goes (Or X I) ρ h ρ' h') (n : ∀ b, I b → h.get? b = Option.none) : Goes X ρ h ρ' h' :=
  ⟨G.pre, G.new, fun b o e nb nx => G.keep b o e nb (fun q => q.elim nx fun q => by rw [n b q] at e; cases e), G.live⟩
theorem fin_goes {I X : Addr → Prop} {h₀ h h' : Heap} {ρ₀ : List Addr} (n : ∀ b, I b → h₀.get? b = none) (G : Goes (Or X I) ρ₀ h₀ ρ h) (k : ∀ b o, h.get? b = some o → ¬ I b → h'.get? b = some o) : Goes X ρ₀ h₀ ρ h' :=
  ⟨G.pre, G.new, fun b o e nb nx => by
    have ni : ¬ I b := fun q => by rw [n b q] at e; cases e
    exact k b o (G.keep b o e nb fun q => q.elim nx ni) ni, fun b o e => by
    have ni : ¬ I b := fun q => by rw [n b q] at e; cases e
    obtain ⟨o', e'⟩ := G.live b o e
    exact ⟨o', k b o' e' ni⟩⟩
theorem loop_core {itv : Value} {l : List Int} {ok : St → Bool} {I : Addr → Prop} {P : Nat → Heap → Prop} {VI : Int → Nat → Value → Heap → Prop} {target : Expr} {body : List Stmt} {bd : En → St → Option (Fl × En × St)} {set : Int → Nat → En → En}
    {fl : Fl} {R : Result → Shared → Prop} {ρ₀ : List Addr} {h₀ : Heap} {ρ₁ : List Addr} (T : Iter cl B A target itv l ok ρ₁ I P VI)
    (hbd : ∀ η σ fl η' σ' ρ s, bd η σ = some (fl, η', σ') → Rel B ρ σ s → Frm B env nm η ρ s.heap → Wp cl B A (execs body env) (PX B env nm ρ s η' σ' fl) s)
    (hset : ∀ x k V η σ ρ s, VI x k V s.heap → Rel B ρ σ s → Frm B env nm η ρ s.heap → Wp cl B A (assign target env V) (fun _ s' => Goes (FX env) ρ s.heap ρ s'.heap ∧ Rel B ρ σ s' ∧ Frm B env nm (set x k η) ρ s'.heap) s)
    (hI : ∀ b, I b → ¬ FX env b ∧ B.s1.heap.get? b = none)
    (hI0 : ∀ b, I b → h₀.get? b = none) (hR : ∀ f s' ρ', Goes (FX env) ρ₀ h₀ ρ' s'.heap → Rel B ρ' σ' s' → Frm B env nm η' ρ' s'.heap → FlM B ρ' fl f → R (.ok f) s')
    (e : loopGo bd set ok l 0 η σ = some (fl, η', σ')) (G₀ : Goes (Or (FX env) I) ρ₀ h₀ ρ₁ s.heap) (R₀ : Rel B ρ₁ σ s) (F₀ : Frm B env nm η ρ₁ s.heap) (P₀ : P 0 s.heap) (N₀ : ∀ b, I b → b ∉ ρ₁) :
    Cd cl B A (.forLoop target itv body [] env) R s := by
  refine codeAny_forLoop_any (fun n s => ∃ i η σ ρ, n = l.length + 1 - i ∧ i ≤ l.length ∧ loopGo bd set ok (l.drop i) i η σ = some (fl, η', σ') ∧ Goes (Or (FX env) I) ρ₀ h₀ ρ s.heap ∧ Rel B ρ σ s ∧ Frm B env nm η ρ s.heap ∧ P i s.heap ∧ (∀ b, I b → b ∉ ρ) ∧ ρ₁ <+: ρ) ?_
    (l.length + 1) ⟨0, η, σ, ρ₁, rfl, Nat.zero_le _, by simpa using e, G₀, R₀, F₀, P₀, N₀, List.prefix_refl _⟩
  rintro n s ⟨i, η, σ, ρ, rfl, hi, e, G, R, F, hP, hN, hpre⟩
  have still : ∀ {σ : St} {s s' : Shared}, (∀ b o, s.heap.get? b = some o → ¬ I b → s'.heap.get? b = some o) → s'.gens = s.gens → s'.os = s.os → Rel B ρ σ s → Rel B ρ σ s' := fun k g o R =>
    R.stillBut I (fun b hb => ⟨hN b hb, (hI b hb).2⟩) k g o
  cases hx : l[i]? with
  | none =>
    have hd : l.drop i = [] := List.drop_eq_nil_of_le (by rw [List.getElem?_eq_none_iff] at hx; exact hx)
    rw [hd] at e
    unfold loopGo at e
    split at e
    · rename_i hok
      cases e
      refine Wp.noted (Wp.mono (T.fin i ρ _ s hx hok hpre R hP hN) fun r s1 ⟨q, k, g, o⟩ => ?_)
      subst q
      exact Wp.noted (wpAny_execs_nil (hR _ _ ρ (fin_goes hI0 G k) (still k g o R) (F.keeps (List.prefix_refl _) (fun _ h => .inl h) fun b ob hb eb => k b ob eb fun q => (hI b q).1 hb) rfl))
    · first | exact nn e | cases e
  | some x =>
    have hlt := (List.getElem?_eq_some_iff.mp hx).1
    have hd : l.drop i = x :: l.drop (i + 1) := by
      rw [List.drop_eq_getElem_cons hlt]
      congr 1
      exact (List.getElem?_eq_some_iff.mp hx).2
    rw [hd] at e
    unfold loopGo at e
    split at e
    · rename_i hok
      refine Wp.noted (Wp.mono (T.item i ρ σ s x hx hok hpre R hP hN) fun r s0 ⟨V, q, hlet⟩ => ?_)
      subst q
      refine Wp.noted (Wp.mono hlet fun _ s1 ⟨hV, hP1, k, g, o⟩ => ?_)
      have R1 := still k g o R
      have F1 : Frm B env nm η ρ s1.heap := F.keeps (List.prefix_refl _) (fun _ h => .inl h) fun b ob hb eb => k b ob eb fun q => (hI b q).1 hb
      have G1 : Goes (Or (FX env) I) ρ s.heap ρ s1.heap := but_goes k fun b hb => T.alive _ _ b hP1 hb
      refine Wp.noted (Wp.mono (hset x i V η σ ρ s1 hV R1 F1) fun _ s2 ⟨G2, R2, F2⟩ => ?_)
      have hP2 : P (i + 1) s2.heap := T.stay _ _ _ hP1 fun b ob hb eb => G2.keep b ob eb (hN b hb) (hI b hb).1
      split at e
      · rename_i η1 σ1 hb1
        refine Wp.noted (Wp.mono (hbd _ _ _ _ _ _ _ hb1 R2 F2) fun f s3 ⟨ρ3, G3, R3, F3, m⟩ => ?_)
        cases m
        refine ⟨l.length + 1 - (i + 1), by (first | omega | lia), i + 1, η1, σ1, ρ3, rfl, hlt, e, ?_, R3, F3, ?_, ?_, hpre.trans (G2.pre.trans G3.pre)⟩
        · exact (G.trans G1).trans ((G2.trans G3).mono fun b h => .inl h)
        · exact T.stay _ _ _ hP2 fun b ob hb eb => G3.keep b ob eb (hN b hb) (hI b hb).1
        · intro b hb hm
          rcases G3.new b hm with h | h
          · exact hN b hb h
          · obtain ⟨ob, eb⟩ := T.alive _ _ b hP2 hb
            rw [eb] at h; cases h
      · rename_i w η1 σ1 hb1
        cases e
        refine Wp.noted (Wp.mono (hbd _ _ _ _ _ _ _ hb1 R2 F2) fun f s3 ⟨ρ3, G3, R3, F3, m⟩ => ?_)
        obtain ⟨W, rfl, mw⟩ := m
        exact hR _ _ ρ3 (((G.trans G1).trans ((G2.trans G3).mono fun b h => .inl h)).drop hI0) R3 F3 ⟨W, rfl, mw⟩
      · first | exact nn e | cases e
    · first | exact nn e | cases e
end
end Tk

namespace Tk
open PySem PySem.W PyProof.Rows PySem.Calls
section
variable {cl : Bool} {B : Bs} {O : Orc} {nm : List Str} {A : Around} {env : Env} {η η' : En} {σ σ' σ₁ : St} {ρ ρ' : List Addr} {s s' : Shared} {v : AV} {V : Value}

noncomputable def VInt (x : Int) (_ : Nat) (V : Value) (_ : Heap) : Prop := ∃ t, V = .int x t
noncomputable def VEnum (x : Int) (k : Nat) (V : Value) (h : Heap) : Prop := ∃ a t u, V = .ref a ∧ IsTup h a #[.int k t, .int x u]
/-- a name is no tuple -/
theorem let_name {x : Str} {p : Pos} {it v : Value} : letOwnedTupleGo (.Name x p) it v = pure () := rfl

/-! a range -/
theorem iter_range {it : Addr} {a c : Int} {l : List Int} {x : Str} {p : Pos} {ρ₁ : List Addr} (hr : Room A 0) (hl : ∀ i : Nat, l[i]? = if i < l.length then some (a + i * c) else none) :
    Iter cl B A (.Name x p) (.ref it) l (fun τ => isL τ none l) ρ₁ (fun b => b = it) (fun i h => IsRangeIter h it (a + i * c) ((l.length : Int) - i) c) VInt where
  item := fun i ρ σ s x hx hok hp R hP hN => by
    have hi := (List.getElem?_eq_some_iff.mp hx).1
    have hx' := hl i
    rw [if_pos hi, hx] at hx'
    cases hx'
    refine leaf (wpAny_pyNext_range_item hP (by (first | lia | omega)) fun h' hit hs => ?_)
    refine ⟨_, rfl, ?_⟩
    rw [let_name]
    refine wpAny_pure ⟨⟨_, rfl⟩, ?_, fun b o e nb => (hs.2 b nb).trans e, rfl, rfl⟩
    have e1 : a + (i : Int) * c + c = a + ((i + 1 : Nat) : Int) * c := by push_cast; rw [Int.add_mul, Int.one_mul, Int.add_assoc]
    have e2 : (l.length : Int) - i - 1 = (l.length : Int) - ((i + 1 : Nat) : Int) := by push_cast; (first | lia | omega)
    rw [e1, e2] at hit; exact hit
  fin := fun i ρ σ s hx hok hp R hP hN => by
    have hi : l.length ≤ i := by rw [List.getElem?_eq_none_iff] at hx; exact hx
    refine leaf (wpAny_pyNext_range_end hr.handled hP (by (first | lia | omega)) fun h' he => ?_)
    exact ⟨rfl, fun b o e nb => he b o nb e, rfl, rfl⟩
  stay := fun i h h' hP k => k it _ rfl hP
  alive := fun i h b hP hb => by subst hb; exact ⟨_, hP⟩
  self := fun i s Q hP hQ => leaf ((Walks.range (prog := pw) (w := B.w) hr.handled it a c l.length).self i s Q _ hP hQ)
/-! a list -/
theorem isL_at {n : Nat} {l : List Int} (h : isL σ (some n) l = true) : σ[n]? = some (.list l) := by
  unfold isL at h
  dsimp only at h
  split at h
  · rename_i l' q; rw [beq_iff_eq.mp h] at q; exact q
  · cases h
theorem iter_list {it a : Addr} {n : Nat} {l : List Int} {x : Str} {p : Pos} {ρ₁ : List Addr} (hr : Room A 0) (ha : ρ₁[n]? = some a) :
    Iter cl B A (.Name x p) (.ref it) l (fun τ => isL τ (some n) l) ρ₁ (fun b => b = it) (fun i h => h.IsListIter it a i) VInt where
  item := fun i ρ σ s x hx hok hp R hP hN => by
    refine Classical.byContradiction fun hG0 => ?_
    obtain ⟨vs, ep, ia, ja⟩ := R.list_at (getElem?_pre hp ha) (isL_at hok)
    obtain ⟨t, ht⟩ := ja.get i x hx
    refine hG0 ?_
    refine leaf (wpAny_pyNext_list_item hP ia.isList (x := .int x t) (by simpa using ht) fun h' hit hs => ?_)
    refine ⟨_, rfl, ?_⟩
    rw [let_name]
    exact wpAny_pure ⟨⟨t, rfl⟩, hit, fun b o e nb => (hs.2 b nb).trans e, rfl, rfl⟩
  fin := fun i ρ σ s hx hok hp R hP hN => by
    obtain ⟨vs, ep, ia, ja⟩ := R.list_at (getElem?_pre hp ha) (isL_at hok)
    refine leaf (wpAny_pyNext_list_end hr.handled hP ia.isList ?_ fun h' he => ⟨rfl, fun b o e nb => he b o nb e, rfl, rfl⟩)
    rw [List.getElem?_eq_none_iff] at hx
    rw [Array.getElem?_eq_none]
    rw [List.size_toArray, ja.length]; exact hx
  stay := fun i h h' hP k => by obtain ⟨o, ho, r⟩ := hP; exact ⟨o, k it _ rfl ho, r⟩
  alive := fun i h b hP hb => by subst hb; obtain ⟨o, ho, r⟩ := hP; exact ⟨o, ho⟩
  self := fun i s Q hP hQ => leaf (wpAny_pyIter_listiter hP hQ)
/-! enumerate of a list -/
theorem iter_enum {e it a : Addr} {n : Nat} {l : List Int} {ts : List Expr} {k : Nat} {p : Pos} {ρ₁ : List Addr} (hr : Room A 0) (ha : ρ₁[n]? = some a) (hne : e ≠ it) :
    Iter cl B A (.Tuple ts k p) (.ref e) l (fun τ => isL τ (some n) l) ρ₁ (fun b => b = e ∨ b = it) (fun i h => (∃ old, IsEnum h e it i old) ∧ h.IsListIter it a i) VEnum where
  item := fun i ρ σ s x hx hok hp R hP hN => by
    obtain ⟨⟨old, he⟩, hit⟩ := hP
    obtain ⟨vs, ep, ia, ja⟩ := R.list_at (getElem?_pre hp ha) (isL_at hok)
    obtain ⟨t, ht⟩ := ja.get i x hx
    refine leaf (wpAny_pyNext_enum_item he hit ia.isList (x := .int x t) (by simpa using ht) hne fun h' heo hit' htup hsz hk => ?_)
    refine ⟨_, rfl, ?_⟩
    have hsize : e ≠ s.heap.objs.size := fun q => by have := get_size s.heap; rw [← q, he] at this; cases this
    refine leaf (wpAny_letOwnedTupleGo_enum (s := { s with heap := h', toks := s.toks + 1 }) heo fun h2 he2 hs2 => ?_)
    have hs2 : Heap.SameBut e h' h2 := hs2
    refine ⟨⟨_, _, _, rfl, ⟨_, (hs2.2 _ (Ne.symm hsize)).trans htup, rfl, _, rfl⟩⟩, ⟨⟨.int x t, ?_⟩, ?_⟩, fun b o eb nb => ?_, rfl, rfl⟩
    · have : ((i + 1 : Nat) : Int) = (i : Int) + 1 := by push_cast; rfl
      rw [this]; exact he2
    · obtain ⟨o, ho, r⟩ := hit'
      exact ⟨o, (hs2.2 it (Ne.symm hne)).trans ho, r⟩
    · exact (hs2.2 b fun q => nb (.inl q)).trans (hk b o (fun q => nb (.inl q)) (fun q => nb (.inr q)) eb)
  fin := fun i ρ σ s hx hok hp R hP hN => by
    obtain ⟨⟨old, he⟩, hit⟩ := hP
    obtain ⟨vs, ep, ia, ja⟩ := R.list_at (getElem?_pre hp ha) (isL_at hok)
    refine leaf (wpAny_pyNext_enum_end hr.handled he hit ia.isList ?_ fun h' he' => ⟨rfl, fun b o eb nb => he' b o (fun q => nb (.inr q)) eb, rfl, rfl⟩)
    rw [List.getElem?_eq_none_iff] at hx
    rw [Array.getElem?_eq_none]
    rw [List.size_toArray, ja.length]; exact hx
  stay := fun i h h' hP k => by
    obtain ⟨⟨old, he⟩, o, ho, r⟩ := hP
    exact ⟨⟨old, k e _ (.inl rfl) he⟩, o, k it _ (.inr rfl) ho, r⟩
  alive := fun i h b hP hb => by
    obtain ⟨⟨old, he⟩, o, ho, r⟩ := hP
    rcases hb with rfl | rfl
    · exact ⟨_, he⟩
    · exact ⟨o, ho⟩
  self := fun i s Q hP hQ => by
    obtain ⟨⟨old, he⟩, _⟩ := hP
    exact leaf (wpAny_pyIter_enum he hQ)
/-! where the items come from: eval of the iterable, and its iterator -/
noncomputable def IterAt (cl : Bool) (B : Bs) (A : Around) (target : Expr) (ρ : List Addr) (s : Shared) (σ' : St) (l : List Int) (ok : St → Bool) (V : Value) (s' : Shared) : Prop :=
  Wp cl B A (pyIter V) (fun it s'' => ∃ ρ' I P, Goes Non ρ s.heap ρ' s''.heap ∧ Rel B ρ' σ' s'' ∧ Iter cl B A target it l ok ρ' I P VInt ∧ P 0 s''.heap ∧ (∀ b, I b → s.heap.get? b = none ∧ b ∉ ρ' ∧ B.s1.heap.get? b = none)) s'
noncomputable def ItOK (cl : Bool) (B : Bs) (O : Orc) (nm : List Str) (A : Around) (it : It) : Prop := ∀ ast env η σ l o σ' ρ s x p, chki nm env.scope it ast = true → evi O B.ns prices it η σ = some (l, o, σ') → Rel B ρ σ s → Frm B env nm η ρ s.heap →
  Wp cl B A (eval ast env) (IterAt cl B A (.Name x p) ρ s σ' l (fun τ => isL τ o l)) s
theorem Rel.base_none (R : Rel B ρ σ s) {b : Addr} (h : s.heap.get? b = none) : B.s1.heap.get? b = none := by
  cases q : B.s1.heap.get? b with
  | none => rfl
  | some o => rw [R.keep b o q] at h; cases h
theorem Rel.fresh (R : Rel B ρ σ s) {b : Addr} (h : s.heap.get? b = none) : b ∉ ρ := fun hb => by
  obtain ⟨i, hi, q⟩ := List.getElem_of_mem hb
  obtain ⟨ob, e⟩ := (R.obj i b (σ[i]'(R.len ▸ hi)) (by rw [List.getElem?_eq_getElem hi, q]) (List.getElem?_eq_getElem (R.len ▸ hi))).alive
  rw [h] at e; cases e
theorem push_keeps {h : Heap} {o : Obj} : ∀ b ob, h.get? b = some ob → (h.push o).get? b = some ob := fun b ob e => Heap.get?_push_of_some _ e
theorem iterAt_range {ρ₁ : List Addr} {s1 : Shared} {a b c : Int} {t u w : Tok} {r : Addr} {l : List Int} {x : Str} {p : Pos} (hr : Room A 0) (G : Goes Non ρ s.heap ρ₁ s1.heap) (R : Rel B ρ₁ σ s1) (hI : IsRange s1.heap r a b c t u w) (hs : Builtin.Range.small a b c = true)
    (hn : Builtin.Range.rangeSize a b c = l.length) (hl : ∀ i : Nat, l[i]? = if i < l.length then some (a + i * c) else none) : IterAt cl B A (.Name x p) ρ s σ l (fun τ => isL τ none l) (.ref r) s1 := by
  refine leaf (wpAny_pyIter_range hI hs ?_)
  have R2 : Rel B ρ₁ σ { s1 with heap := s1.heap.push { cls := .type "range_iterator", data := .fields #[rawInt a, rawInt (Builtin.Range.rangeSize a b c), rawInt c] } } := R.still push_keeps rfl rfl
  refine ⟨ρ₁, _, _, G.trans (goes_keeps push_keeps), R2, iter_range hr hl, ?_, fun b hb => ?_⟩
  · show IsRangeIter _ _ _ _ _
    unfold IsRangeIter
    rw [Heap.get?_push_size _ rfl, hn]
    simp
  · subst hb
    have := get_size s1.heap
    exact ⟨G.none this, R.fresh this, R.base_none this⟩
theorem it_range {e : E} (K : B.Ok) (hr : Room A 0) (he : EvOK cl B O nm A e) : ItOK cl B O nm A (.range e) := fun ast env η σ l o σ' ρ s x p hc e R F => by
  refine chz_range hc fun f q y p' h => ?_
  simp only [Bool.and_eq_true] at h
  obtain rfl := beq_iff_eq.mp h.1.2
  refine bindE e fun w σ1 e1 e => ?_
  obtain ⟨n, rfl⟩ : ∃ c, w = .int c := by cases w <;> first | exact ⟨_, rfl⟩ | (exact nn e)
  dsimp only at e
  split at e
  · rename_i hz
    cases e
    refine Call_Name rfl (leaf (ev_blt K h.1.1 R F rfl (blt_tail (es_cons he es_nil) (chks_one h.2) (.inr ⟨_, rfl⟩) (evs_one e1) R F fun Vs s1 ρ1 G1 R1 m1 => ?_)))
    cases m1 with
    | cons m mr =>
      cases mr
      obtain ⟨t, rfl⟩ := m
      refine leaf (call_range_1 ?_)
      have R2 : Rel B ρ1 σ' { s1 with heap := s1.heap.push { cls := .type "range", data := .fields #[.int 0 s1.toks, .int n t, .int 1 (s1.toks + 1)] }, toks := s1.toks + 1 + 1 } := R1.still push_keeps rfl rfl
      refine iterAt_range hr (G1.trans (goes_keeps push_keeps)) R2 (IsRange.new _ _ _ _ _ _ _) (small_one (by (first | omega | lia)) (by (first | omega | lia)) (by (first | omega | lia)) (by (first | omega | lia))) ?_ fun i => ?_
      · rw [rangeSize_one, List.length_map, List.length_range]
        split <;> (first | omega | lia)
      · rw [List.length_map, List.length_range, List.getElem?_map]
        by_cases hi : i < n.toNat
        · rw [if_pos hi, List.getElem?_range hi]; simp
        · rw [if_neg hi, List.getElem?_eq_none (by simpa using hi)]; rfl
  · first | exact nn e | cases e
theorem size_down (i j : Int) : Builtin.Range.rangeSize i j (-1) = ((i - j).toNat : Int) := by
  unfold Builtin.Range.rangeSize
  rw [if_neg (by decide)]
  split
  · have h1 : (- -1 : Int) = 1 := rfl
    rw [h1, Int.ediv_one]
    (first | lia | omega)
  · (first | lia | omega)
theorem it_range3 {a b c : E} (K : B.Ok) (hr : Room A 0) (ha : EvOK cl B O nm A a) (hb : EvOK cl B O nm A b) (hc' : EvOK cl B O nm A c) : ItOK cl B O nm A (.range3 a b c) := fun ast env η σ l o σ' ρ s x p hc e R F => by
  refine chz_range3 hc fun f q y z u p' h => ?_
  refine B5 h fun h1 h2 h3 h4 h5 => ?_
  obtain rfl := beq_iff_eq.mp h2
  refine bindE e fun w1 σ1 e1 e => ?_
  refine bindE e fun w2 σ2 e2 e => ?_
  refine bindE e fun w3 σ3 e3 e => ?_
  obtain ⟨i, rfl⟩ : ∃ c, w1 = .int c := by cases w1 <;> first | exact ⟨_, rfl⟩ | (exact nn e)
  obtain ⟨j, rfl⟩ : ∃ c, w2 = .int c := by cases w2 <;> first | exact ⟨_, rfl⟩ | (exact nn e)
  obtain ⟨k, rfl⟩ : ∃ c, w3 = .int c := by cases w3 <;> first | exact ⟨_, rfl⟩ | (exact nn e)
  refine mapE1 e fun l' e4 e5 => ?_
  cases e5
  unfold rangeL at e4
  split at e4
  · rename_i hz
    obtain ⟨rfl, hz1, hz2⟩ := hz
    cases e4
    have ee : evs O B.ns prices (.cons a (.cons b (.cons c .nil))) η σ = some ([.int i, .int j, .int (-1)], σ3) := by
      show (ev O B.ns prices a η σ).bind _ = _
      rw [e1]
      show (evs O B.ns prices (.cons b (.cons c .nil)) η σ1).map _ = _
      have : evs O B.ns prices (.cons b (.cons c .nil)) η σ1 = some ([.int j, .int (-1)], σ3) := by
        show (ev O B.ns prices b η σ1).bind _ = _
        rw [e2]
        show (evs O B.ns prices (.cons c .nil) η σ2).map _ = _
        rw [evs_one e3]; rfl
      rw [this]; rfl
    have hcs : chks nm env.scope (.cons a (.cons b (.cons c .nil))) [y, z, u] = true := by
      have t := chks_two h4 h5
      cases y <;> first | (rw [chk_star] at h3; cases h3) | (show (chk _ _ _ _ && chks _ _ _ _) = true; rw [h3, t]; rfl)
    refine Call_Name rfl (leaf (ev_blt K h1 R F rfl (blt_tail (es_cons ha (es_cons hb (es_cons hc' es_nil))) hcs (.inr ⟨_, rfl⟩) ee R F fun Vs s1 ρ1 G1 R1 m1 => ?_)))
    cases m1 with
    | cons m1 mr =>
    cases mr with
    | cons m2 mr =>
    cases mr with
    | cons m3 mr =>
      cases mr
      obtain ⟨t, rfl⟩ := m1
      obtain ⟨t', rfl⟩ := m2
      obtain ⟨t'', rfl⟩ := m3
      refine leaf (call_range_3 (by decide) ?_ (.inl (PyProof.noPylong_small (by decide))))
      have R2 : Rel B ρ1 σ3 { s1 with heap := s1.heap.push { cls := .type "range", data := .fields #[.int i t, .int j t', .int (-1) t''] } } := R1.still push_keeps rfl rfl
      have hsz := size_down i j
      refine iterAt_range hr (G1.trans (goes_keeps push_keeps)) R2 (IsRange.new _ _ _ _ _ _ _) ?_ ?_ fun n => ?_
      · unfold Builtin.Range.small
        rw [hsz]
        simp only [Builtin.Range.rangeFitsLong, Bool.and_eq_true, Bool.or_eq_true, decide_eq_true_eq, beq_iff_eq]
        rw [if_neg (by decide)]
        simp only [decide_eq_true_eq, Bool.and_eq_true]
        refine ⟨⟨⟨⟨?_, ?_⟩, ?_⟩, ?_⟩, Or.inr ?_⟩ <;> (first | lia | omega)
      · rw [hsz, List.length_map, List.length_range]
      · rw [List.length_map, List.length_range, List.getElem?_map]
        by_cases hi : n < (i - j).toNat
        · rw [if_pos hi, List.getElem?_range hi]
          show some (i - (n : Int)) = some _
          congr 1; (first | lia | omega)
        · rw [if_neg hi, List.getElem?_eq_none (by simpa using hi)]; rfl
  · first | exact nn e4 | cases e4
theorem it_elems {e : E} (hr : Room A 0) (he : EvOK cl B O nm A e) : ItOK cl B O nm A (.elems e) := fun ast env η σ l o σ' ρ s x p hc e R F => by
  obtain ⟨_, h⟩ := chk_elems hc
  refine bindE e fun w σ1 e1 e => ?_
  obtain ⟨n, rfl⟩ : ∃ c, w = .lab c := by cases w <;> first | exact ⟨_, rfl⟩ | (exact nn e)
  dsimp only at e
  split at e
  · rename_i l' q
    cases e
    refine Wp.pv (he _ _ _ _ _ _ _ _ h e1 R F) fun X s1 ρ1 G1 R1 m1 => ?_
    refine Classical.byContradiction fun hG0 => ?_
    obtain ⟨a, ha, rfl⟩ := m1
    obtain ⟨vs, ep, ia, ja⟩ := R1.list_at ha q
    refine hG0 ?_
    refine leaf (wpAny_pyIter_list ia.isList ?_)
    refine ⟨ρ1, _, _, G1.trans (goes_keeps push_keeps), R1.still push_keeps rfl rfl, iter_list hr ha, ⟨_, Heap.get?_push_size _ rfl, rfl, rfl⟩, fun b hb => ?_⟩
    subst hb
    have := get_size s1.heap
    exact ⟨G1.none this, R1.fresh this, R1.base_none this⟩
  · first | exact nn e | cases e
end
end Tk

namespace Tk
open PySem PySem.W PyProof.Rows PySem.Calls
section
variable {cl : Bool} {B : Bs} {O : Orc} {nm : List Str} {A : Around} {env : Env} {η η' : En} {σ σ' σ₁ : St} {ρ ρ' : List Addr} {s s' : Shared} {v : AV} {V : Value}

theorem frm_off (F : Frm B env nm η ρ s.heap) {b : Addr} (h : s.heap.get? b = none) : ¬ FX env b := fun q => by
  obtain ⟨o, e⟩ := F.lt q
  rw [h] at e; cases e
theorem sx_for {i : Nat} {it : It} {body : Ss} (hi : ItOK cl B O nm A it) (hb : SsOK cl B O nm A body) : SxOK cl B O nm A (.for_ i it body) := fun ast env η σ fl η' σ' ρ s hc e R F => by
  refine chzS_for hc fun x p iter bd pos h => ?_
  refine Classical.byContradiction fun hG0 => ?_
  obtain ⟨⟨h1, h2⟩, h3⟩ := A3 h
  obtain ⟨⟨l, o, σ1⟩, e1, e2⟩ := Option.bind_eq_some_iff.mp e
  refine hG0 ?_
  have hset : ∀ v, foldedSetIterable iter env v = pure v := by
    intro v
    cases it with
    | range a => exact chz_range h2 fun _ _ _ _  _ => rfl
    | range3 a b c => exact chz_range3 h2 fun _ _ _ _ _ _  _ => rfl
    | elems a => exact (chk_elems h2).1 env v
  refine wpAny_For (Wp.mono (hi _ _ _ _ _ _ _ _ _ x p h2 e1 R F) fun X s1 hIt => ?_) hset
  refine Wp.mono hIt fun it' s2 ⟨ρ2, I, P, G2, R2, T, P2, N2⟩ => ?_
  have F2 := F.go G2
  refine loop_core (η := η) (R := fun r s' => match r with | .ok f => PX B env nm ρ s η' σ' fl f s' | .error _ => False) (ρ₀ := ρ) (h₀ := s.heap) T
    (fun η σ fl η' σ' ρ s he Rs Fs => hb _ _ _ _ _ _ _ _ _ h3 he Rs Fs) (fun x k V η σ ρ s hV Rs Fs => ?_) (fun b hb => ⟨frm_off F (N2 b hb).1, (N2 b hb).2.2⟩) (fun b hb => (N2 b hb).1)
    (fun f s' ρ' G' R' F' m => ⟨ρ', G', R', F', m⟩) e2 (G2.any) R2 F2 P2 fun b hb => (N2 b hb).2.1
  obtain ⟨t, rfl⟩ := hV
  exact wpAny_assign_Name (leaf (store_slot h1 Rs Fs ⟨t, rfl⟩))
theorem sx_forEnum {i j : Nat} {e : E} {body : Ss} (K : B.Ok) (hr : Room A 0) (he : EvOK cl B O nm A e) (hb : SsOK cl B O nm A body) : SxOK cl B O nm A (.forEnum i j e body) := fun ast env η σ fl η' σ' ρ s hc e R F => by
  refine chzS_forEnum hc fun x px y py k p z pz v pc bd pos h => ?_
  refine Classical.byContradiction fun hG0 => ?_
  obtain ⟨⟨⟨⟨⟨⟨h1, h2⟩, h3⟩, h4⟩, h5⟩, h6⟩, h7⟩ := A7 h
  have h3 := of_decide_eq_true h3
  obtain rfl := beq_iff_eq.mp h5
  refine hG0 ?_
  refine bindE e fun w σ1 e1 e2 => ?_
  obtain ⟨n, rfl⟩ : ∃ c, w = .lab c := by cases w <;> first | exact ⟨_, rfl⟩ | (exact nn e2)
  dsimp only at e2
  split at e2
  · rename_i l q
    refine wpAny_For (Call_Name rfl (leaf (ev_blt K h4 R F rfl (blt_tail (es_cons he es_nil) (chks_one h6) (.inr ⟨_, rfl⟩) (evs_one e1) R F fun Vs s1 ρ1 G1 R1 m1 => ?_)))) (fun v => rfl)
    cases m1 with
    | cons m mr =>
      cases mr
      refine Classical.byContradiction fun hG1 => ?_
      obtain ⟨a, ha, rfl⟩ := m
      obtain ⟨vs, ep, ia, ja⟩ := R1.list_at ha q
      refine hG1 ?_
      refine leaf (call_enumerate_list ia.isList fun h' hen hit hsz hk => ?_)
      have R2 : Rel B ρ1 σ1 { s1 with heap := h' } := R1.still hk rfl rfl
      have G2 : Goes Non ρ s.heap ρ1 h' := G1.trans (goes_keeps hk)
      have F2 : Frm B env nm η ρ1 h' := F.go G2
      have fresh : ∀ b, (b = s1.heap.objs.size + 1 ∨ b = s1.heap.objs.size) → s1.heap.get? b = none := fun b hb => by
        rcases hb with rfl | rfl
        · exact get_size1 _ 1
        · exact get_size _
      have self : Wp cl B A (pyIter (.ref (s1.heap.objs.size + 1))) (fun it s'' => it = .ref (s1.heap.objs.size + 1) ∧ s'' = { s1 with heap := h' }) { s1 with heap := h' } := leaf (wpAny_pyIter_enum hen ⟨rfl, rfl⟩)
      refine Wp.mono self fun it' s2 ⟨q1, q2⟩ => ?_
      subst q1 q2
      refine loop_core (η := η) (I := fun b => b = s1.heap.objs.size + 1 ∨ b = s1.heap.objs.size) (R := fun r s' => match r with | .ok f => PX B env nm ρ s η' σ' fl f s' | .error _ => False) (ρ₀ := ρ) (h₀ := s.heap) (iter_enum (ρ₁ := ρ1) hr ha (Nat.succ_ne_self _))
        (fun η σ fl η' σ' ρ s he Rs Fs => hb _ _ _ _ _ _ _ _ _ h7 he Rs Fs) (fun x' k' V η σ ρ s hV Rs Fs => ?_) (fun b hb => ⟨frm_off F (G1.none (fresh b hb)), R1.base_none (fresh b hb)⟩) (fun b hb => G1.none (fresh b hb))
        (fun f s' ρ' G' R' F' m => ⟨ρ', G', R', F', m⟩) e2 (G2.any) R2 F2 ⟨⟨_, hen⟩, hit⟩ fun b hb => R1.fresh (fresh b hb)
      obtain ⟨a', t, u, rfl, ht⟩ := hV
      refine assign_tuple (is := [i, j]) (vs := [.int k', .int x']) (Vs := [.int k' t, .int x' u]) hr.handled ?_ rfl Rs Fs (.cons ⟨t, rfl⟩ (.cons ⟨u, rfl⟩ .nil)) ht
      show (isVar nm env.scope i x && (isVar nm env.scope j y && true)) = true
      rw [h1, h2]; rfl
  · first | exact nn e2 | cases e2
end
end Tk

namespace Tk
open PySem PySem.W PyProof.Rows PySem.Calls
section
variable {cl : Bool} {B : Bs} {O : Orc} {nm : List Str} {A : Around} {env : Env} {η η' : En} {σ σ' σ₁ : St} {ρ ρ' : List Addr} {s s' : Shared} {v : AV} {V : Value}

/-- an item at a list's end, the object told exactly -/
theorem append_exact {l : Addr} {items : Array Value} {n : Nat} {X : Value} {Q : Value → Shared → Prop} (hl : IsL s.heap l items n) (hz : items.size ≤ sizeLine)
    (h : Q .none { s with heap := s.heap.update l (Obj.mapSeq fun xs => xs.push X) }) : WpA B A (call (.builtin "list.append") [.ref l, X]) Q s :=
  call_meets F.slot_list_append ⟨_, hl, rfl⟩ F.entry_list_append (F.args_list_append_2 _ _) (list_append l items n X hz) ⟨hl, h⟩
theorem sameBut_goes' {a : Addr} {h h' : Heap} (hs : Heap.SameBut a h h') (al : ∃ o, h'.get? a = some o) : Goes (fun b => b = a) ρ h ρ h' :=
  ⟨List.prefix_refl _, fun _ h => .inl h, fun b o e _ nx => (hs.2 b nx).trans e, fun b o e => by
    by_cases q : b = a
    · subst q; exact al
    · exact ⟨o, (hs.2 b q).trans e⟩⟩
/-- a store into a local slot: only the frame's own dict moves -/
theorem store_local {i : Nat} {x : Str} (h1 : nm[i]? = some x) (h2 : env.kindOf x = some .local) (R : Rel B ρ σ s) (F : Frm B env nm η ρ s.heap) (m : VM B ρ v V) :
    WpA B A (storeName env x V) (fun _ s' => Goes (fun b => b = env.locals) ρ s.heap ρ s'.heap ∧ Rel B ρ σ s' ∧ Frm B env nm (upd η i v) ρ s'.heap) s := by
  have other : ∀ {j : Nat} {y : Str}, j ≠ i → nm[j]? = some y → y ≠ x := fun {j y} hj e q => by
    subst q
    obtain ⟨p, q⟩ := List.getElem?_eq_some_iff.mp h1
    obtain ⟨p', q'⟩ := List.getElem?_eq_some_iff.mp e
    exact hj ((List.getElem_inj F.nd).mp (q'.trans q.symm))
  obtain ⟨m0, hn⟩ := F.ns
  refine wpAny_storeName_local h2 hn (fun h' hn' hs => ?_) (by rw [F.kind]; rfl)
  have al : ∃ o, h'.get? env.locals = some o := by obtain ⟨o, _, _, ho, _⟩ := hn'; exact ⟨o, ho⟩
  refine ⟨sameBut_goes' hs al, R.stillBut (FX env) F.own (fun b o e nx => (hs.2 b fun q => nx (.inl q)).trans e) rfl rfl, ?_⟩
  have cellsKeep : ∀ y c, env.cells.lookup y = some c → ∀ o, s.heap.get? c = some o → h'.get? c = some o := fun y c e o q => (hs.2 c (F.sep y c e)).trans q
  refine ⟨F.kind, F.glob, F.blt, ⟨_, hn'⟩, fun y c e => ?_, F.have_, F.own, F.sep, F.apart, F.nd, fun j w e => ?_⟩
  · obtain ⟨u, n⟩ := F.cells y c e; exact ⟨u, cell_at n (cellsKeep y c e)⟩
  · unfold upd at e
    by_cases hj : j = i
    · rw [if_pos hj] at e; cases e; subst hj
      exact ⟨x, V, h1, .inl ⟨h2, _, hn', if_pos rfl⟩, m⟩
    · rw [if_neg hj] at e
      obtain ⟨y, W, q1, q2, q3⟩ := F.val j w e
      refine ⟨y, W, q1, ?_, q3⟩
      rcases q2 with ⟨a, m1, n1, e1⟩ | ⟨a, c, e1, n1⟩
      · obtain rfl := ns_det hn n1
        exact .inl ⟨a, _, hn', by rw [if_neg (other hj q1)]; exact e1⟩
      · exact .inr ⟨a, c, e1, cell_at n1 (cellsKeep y c e1)⟩
theorem Frm.drop {j : Nat} {w : AV} (F : Frm B env nm (upd η j w) ρ s.heap) (hj : η j = none) : Frm B env nm η ρ s.heap :=
  { F with val := fun i v e => F.val i v (by unfold upd; rw [if_neg (fun q => by subst q; rw [hj] at e; cases e)]; exact e) }
/-- the cells that a block closes over -/
theorem closure_ok {scope : Scope} (hf : ∀ x ∈ scope.names, x.2 = .free → ∃ c, env.cells.lookup x.1 = some c) :
    ∃ cl, closureFor scope env = pure cl ∧ (∀ x c, cl.lookup x = some c → env.cells.lookup x = some c) ∧ ∀ x ∈ scope.names, x.2 = .free → ∃ c, cl.lookup x.1 = some c := by
  have gen : ∀ (names : List (Str × NameKind)) (acc : List (Str × Addr)), (∀ x ∈ names, x.2 = .free → ∃ c, env.cells.lookup x.1 = some c) → (∀ x c, acc.lookup x = some c → env.cells.lookup x = some c) →
      ∃ cl, (forIn names acc fun (x : Str × NameKind) (r : List (Str × Addr)) => (if x.2 == .free then (do let c ← cellOf env x.1; pure (ForInStep.yield ((x.1, c) :: r))) else pure (ForInStep.yield r) : Sem (ForInStep (List (Str × Addr))))) = pure cl ∧
        (∀ x c, cl.lookup x = some c → env.cells.lookup x = some c) ∧ (∀ x ∈ names, x.2 = .free → ∃ c, cl.lookup x.1 = some c) ∧ ∀ x c, acc.lookup x = some c → ∃ c', cl.lookup x = some c' := by
    intro names
    induction names with
    | nil => intro acc _ ha; exact ⟨acc, by rw [List.forIn_nil], ha, fun x hx => (nomatch hx), fun x c e => ⟨c, e⟩⟩
    | cons y r ih =>
      intro acc hy ha
      obtain ⟨n, k⟩ := y
      by_cases hk : k = .free
      · subst hk
        obtain ⟨c, hc⟩ := hy (n, .free) List.mem_cons_self rfl
        obtain ⟨cl, e1, e2, e3, e4⟩ := ih ((n, c) :: acc) (fun x hx => hy x (List.mem_cons_of_mem _ hx)) (fun x c' e => by
          rw [List.lookup_cons] at e
          cases hb : x == n with
          | true => rw [hb] at e; cases e; rw [beq_iff_eq.mp hb]; exact hc
          | false => rw [hb] at e; exact ha x c' e)
        refine ⟨cl, ?_, e2, fun x hx hf => ?_, fun x c' e => ?_⟩
        · rw [List.forIn_cons]
          have : cellOf env n = pure c := by unfold cellOf; rw [hc]
          simp only [beq_self_eq_true, if_true, this]
          exact e1
        · rcases List.mem_cons.mp hx with rfl | hx
          · exact e4 n c (by rw [List.lookup_cons, beq_self_eq_true])
          · exact e3 x hx hf
        · by_cases hb : x = n
          · subst hb; exact e4 x c (by rw [List.lookup_cons, beq_self_eq_true])
          · exact e4 x c' (by rw [List.lookup_cons, beq_false_of_ne hb]; exact e)
      · obtain ⟨cl, e1, e2, e3, e4⟩ := ih acc (fun x hx => hy x (List.mem_cons_of_mem _ hx)) ha
        refine ⟨cl, ?_, e2, fun x hx hf => ?_, e4⟩
        · rw [List.forIn_cons]
          have : (k == NameKind.free) = false := by simpa using hk
          simp only [this, Bool.false_eq_true, if_false]
          exact e1
        · rcases List.mem_cons.mp hx with rfl | hx
          · exact absurd hf hk
          · exact e3 x hx hf
  obtain ⟨cl, e1, e2, e3, _⟩ := gen scope.names [] hf (fun x c e => by cases e)
  refine ⟨cl, ?_, e2, e3⟩
  unfold closureFor
  rw [bind_pure]
  exact e1
end
end Tk

namespace Tk
open PySem PySem.W PyProof.Rows PySem.Calls
section
variable {cl : Bool} {B : Bs} {O : Orc} {nm : List Str} {A : Around} {env : Env} {η η' : En} {σ σ' σ₁ : St} {ρ ρ' : List Addr} {s s' : Shared} {v : AV} {V : Value}

theorem look_seen {sc scope : Scope} {z : Str} {k : NameKind} (h : scope.names.lookup z = some k) : (seenIn sc scope).names.lookup z = some (if k == .free && sc.kind == .function && sc.names.lookup z == some .cell then .cell else k) := by
  unfold seenIn
  dsimp only
  have gen : ∀ (l : List (Str × NameKind)), l.lookup z = some k → (l.map fun x => if x.2 == .free && sc.kind == .function && sc.names.lookup x.1 == some .cell then (x.1, .cell) else (x.1, x.2)).lookup z = some (if k == .free && sc.kind == .function && sc.names.lookup z == some .cell then .cell else k) := by
    intro l
    induction l with
    | nil => intro h; cases h
    | cons y r ih =>
      intro h
      obtain ⟨n, q⟩ := y
      rw [List.lookup_cons] at h
      rw [List.map_cons]
      cases hb : z == n with
      | true =>
        rw [hb] at h; cases h
        obtain rfl := beq_iff_eq.mp hb
        split <;> simp_all [List.lookup_cons]
      | false =>
        rw [hb] at h
        have := ih h
        split <;> (rw [List.lookup_cons, hb]; exact this)
  exact gen _ h
theorem seen_cell {sc scope : Scope} {z : Str} (hno : ∀ x ∈ scope.names, x.2 ≠ .cell) (h : (seenIn sc scope).names.lookup z = some .cell) : ∃ x ∈ scope.names, x.1 = z ∧ x.2 = .free := by
  unfold seenIn at h
  dsimp only at h
  obtain ⟨y, hy, q⟩ := List.mem_map.mp (mem_of_lookup h)
  by_cases hc : (y.2 == .free && sc.kind == .function && sc.names.lookup y.1 == some .cell) = true
  · rw [if_pos hc] at q
    cases q
    simp only [Bool.and_eq_true, beq_iff_eq] at hc
    exact ⟨y, hy, rfl, hc.1.1⟩
  · rw [if_neg hc] at q
    exact absurd (Prod.mk.inj q).2 (hno y hy)
theorem look_mem {α : Type} : ∀ {l : List (Str × α)}, (l.map (·.1)).Nodup → ∀ x ∈ l, l.lookup x.1 = some x.2
  | [], _, _, h => (nomatch h)
  | (k, v) :: r, hn, x, h => by
    rw [List.map_cons, List.nodup_cons] at hn
    rw [List.lookup_cons]
    rcases List.mem_cons.mp h with rfl | h
    · rw [beq_self_eq_true]
    · have : (x.1 == k) = false := by
        rw [beq_eq_false_iff_ne]
        intro q
        have hm := List.mem_map_of_mem (f := fun z : Str × α => z.1) h
        rw [q] at hm; exact hn.1 hm
      rw [this]; exact look_mem hn.2 x h
/-- what is behind a comprehension's block -/
noncomputable def CompEnd' (B : Bs) (ρ : List Addr) (s : Shared) (σ' : St) (v : AV) (acc : Value) (C : Addr) (s' : Shared) : Prop :=
  ∃ ρ' J, Goes J ρ s.heap ρ' s'.heap ∧ Rel B ρ' σ' s' ∧ VM B ρ' v acc ∧ (∃ m, s'.heap.Ns C m) ∧ J C ∧ ∀ b, J b → s.heap.get? b = none ∧ b ∉ ρ' ∧ B.s1.heap.get? b = none
theorem comp_core {elt : E} {j : Nat} {cap : List Nat} {it : It} {x iter : Expr} {y : Str} {q : Pos} {scope : Scope} {p : Pos} {pos : Pos} {use : Option (Value → Sem Unit)} {Q : Value → Shared → Prop} (hr : Room A 0) (hi : ItOK cl B O nm A it) (he : EvOK cl B O nm A elt)
    (hc : chk nm env.scope (.comp elt j cap it) (.ListComp x [⟨.Name y q, iter, [], 0⟩] scope p) = true) (e : ev O B.ns prices (.comp elt j cap it) η σ = some (v, σ')) (R : Rel B ρ σ s) (F : Frm B env nm η ρ s.heap)
    (hend : ∀ acc C s', CompEnd' B ρ s σ' v acc C s' → compPost' cl B A use Q acc C (.ok .next) s') :
    Wp cl B A (comprehension (.ListComp x [⟨.Name y q, iter, [], 0⟩] scope p) scope env pos (newList []) false (eval iter env) use) Q s := by
  refine Classical.byContradiction fun hG0 => ?_
  obtain ⟨_, _, _, _, _, _, hq, h⟩ := chk_comp hc
  refine hG0 ?_
  cases hq
  refine B11 h fun h1 h2 h3 h4 h5 h6 h7 h8 h9 h10 h11 => ?_
  refine Classical.byContradiction fun hG1 => ?_
  obtain ⟨⟨l, o, σ1⟩, e1, e2⟩ := Option.bind_eq_some_iff.mp e
  refine hG1 ?_
  refine mapE1 e2 fun τ e3 e4 => ?_
  cases e4
  refine Classical.byContradiction fun hG2 => ?_
  dsimp only at e3
  have hall : ∀ x ∈ scope.names, (x.2 = .local ∧ (x.1 = y ∨ x.1 = ".0")) ∨ (x.2 = .free ∧ env.kindOf x.1 = some .cell) ∨ x.2 = .globalImplicit := fun x hx => by
    have := List.all_eq_true.mp h10 x hx
    simp only [Bool.or_eq_true, Bool.and_eq_true, beq_iff_eq] at this
    rcases this with (⟨a, b⟩ | ⟨a, b⟩) | a
    · exact .inl ⟨a, b⟩
    · exact .inr (.inl ⟨a, b⟩)
    · exact .inr (.inr a)
  have hnd : (scope.names.map (·.1)).Nodup := by simpa using h11
  have hno : ∀ x ∈ scope.names, x.2 ≠ .cell := fun x hx q => by rcases hall x hx with ⟨a, _⟩ | ⟨a, _⟩ | a <;> (rw [q] at a; cases a)
  have hlook : ∀ x ∈ scope.names, scope.names.lookup x.1 = some x.2 := look_mem hnd
  obtain ⟨cs, hclos, hcl1, hcl2⟩ := closure_ok (env := env) (scope := scope) fun x hx hf => by
    rcases hall x hx with ⟨a, _⟩ | ⟨_, b⟩ | a
    · rw [hf] at a; cases a
    · exact F.have_ _ b
    · rw [hf] at a; cases a
  refine hG2 ?_
  have hset : ∀ v, foldedSetIterable iter env v = pure v := by
    intro v
    cases it with
    | range a => exact chz_range h1 fun _ _ _ _  _ => rfl
    | range3 a b c => exact chz_range3 h1 fun _ _ _ _ _ _  _ => rfl
    | elems a => exact (chk_elems h1).1 env v
  have hk : scope.kind = .function := beq_iff_eq.mp h4
  have hy : nm[j]? = some y := beq_iff_eq.mp h3
  refine wpAny_comprehension_free rfl hset hclos hk (fun x hx hl => by rw [hlook x hx, hl]) (Wp.mono (hi _ _ _ _ _ _ _ _ _ y q h1 e1 R F) fun X s1 hIt => ?_)
  refine Wp.mono hIt fun it' s2 ⟨ρ2, I, P, G2, R2, T, P2, N2⟩ => ?_
  refine leaf (wpAny_newObj_type (leaf (wpAny_newFunctionEnv hno (by intro y hy; simp at hy) (fun h₁ hns₁ hsb₁ => ?_) hk)))
  dsimp only at hns₁ hsb₁ ⊢
  -- the new list and the block's own dict
  generalize hH2 : s2.heap.push { cls := .type "list", dict := none, data := .seq ([] : List Value).toArray } = H2 at hns₁ hsb₁ ⊢
  have hH2s : H2.objs.size = s2.heap.objs.size + 1 := by rw [← hH2, Heap.size_push]
  have kH2 : ∀ b o, s2.heap.get? b = some o → H2.get? b = some o := fun b o e => hH2 ▸ Heap.get?_push_of_some _ e
  have dD : H2.get? s2.heap.objs.size = some ⟨.type "list", none, .seq ([] : List Value).toArray 0, #[]⟩ := hH2 ▸ Heap.get?_push_size _ rfl
  have kh1 : ∀ b o, H2.get? b = some o → h₁.get? b = some o := fun b o e => by
    have hb : b ≠ H2.objs.size := fun q => by rw [q, get_size] at e; cases e
    exact (hsb₁.2 b hb).trans (Heap.get?_push_of_some _ e)
  have k1 : ∀ b o, s2.heap.get? b = some o → h₁.get? b = some o := fun b o e => kh1 b o (kH2 b o e)
  have dead : s2.heap.get? H2.objs.size = none := by rw [hH2s]; exact get_size1 _ 1
  generalize hC : H2.objs.size = C at hns₁ hsb₁ dead ⊢
  generalize hD : s2.heap.objs.size = D at dD
  have deadD : s2.heap.get? D = none := hD ▸ get_size _
  have hDC : D ≠ C := by rw [← hC, hH2s, ← hD]; exact Nat.ne_of_lt (Nat.lt_succ_self _)
  have R3 : Rel B (ρ2 ++ [D]) (σ1 ++ [.list []]) { s2 with heap := h₁, toks := s2.toks + ([] : List (Str × Value)).length } := R2.push deadD k1 ⟨[], 0, kh1 _ _ dD, .nil⟩ rfl rfl
  have hNs : h₁.Ns C fun _ => none := by simpa using hns₁
  -- the block's frame
  let cenv : Env := { (newEnv scope C env.globals cs env.qual none .none (some env) 0) with scope := relabel scope env }
  let η0 : En := fun i => if cap.contains i then η i else none
  have hj0 : η0 j = none := by
    show (if cap.contains j then η j else none) = none
    have : cap.contains j = false := by simpa using h6
    rw [this]; rfl
  have F3 : Frm B cenv nm η0 (ρ2 ++ [D]) h₁ := by
    have Fs : Frm B env nm η ρ2 s2.heap := F.go G2
    have cellAlive : ∀ x c, cs.lookup x = some c → ∃ v, s2.heap.IsCell c v := fun x c e => Fs.cells x c (hcl1 x c e)
    have notD : ∀ b, (∃ o, s2.heap.get? b = some o) → b ≠ D ∧ b ≠ C := fun b ⟨o, e⟩ => ⟨(fun q => by rw [q, deadD] at e; cases e), (fun q => by rw [q, dead] at e; cases e)⟩
    refine ⟨hk, F.glob, F.blt, ⟨_, hNs⟩, fun x c e => ?_, fun x e => ?_, fun b hb => ?_, fun x c e => ?_, fun x y c e1 e2 => Fs.apart x y c (hcl1 _ _ e1) (hcl1 _ _ e2), F.nd, fun i w e => ?_⟩
    · obtain ⟨u, n⟩ := cellAlive x c e; exact ⟨u, n.keeps k1⟩
    · obtain ⟨z, hz, q1, q2⟩ := seen_cell hno e
      subst q1; exact hcl2 z hz q2
    · rcases hb with rfl | ⟨x, e⟩
      · refine ⟨fun hm => ?_, R2.base_none dead⟩
        rcases List.mem_append.mp hm with hm | hm
        · exact R2.fresh dead hm
        · exact hDC (List.mem_singleton.mp hm).symm
      · refine Classical.byContradiction fun hG3 => ?_
        have o1 := Fs.own b (.inr ⟨x, hcl1 x b e⟩)
        obtain ⟨u, n⟩ := cellAlive x b e
        obtain ⟨ob, eb, _⟩ := n
        refine hG3 ?_
        refine ⟨fun hm => ?_, o1.2⟩
        rcases List.mem_append.mp hm with hm | hm
        · exact o1.1 hm
        · exact (notD b ⟨ob, eb⟩).1 (List.mem_singleton.mp hm)
    · refine Classical.byContradiction fun hG4 => ?_
      obtain ⟨u, ob, eb, _⟩ := cellAlive x c e
      refine hG4 ?_
      exact (notD c ⟨ob, eb⟩).2
    · refine Classical.byContradiction fun hG5 => ?_
      have hcap : cap.contains i = true ∧ η i = some w := by
        have e : (if cap.contains i then η i else none) = some w := e
        split at e
        · exact ⟨‹_›, e⟩
        · first | exact nn e | cases e
      obtain ⟨z, W, q1, q2, q3⟩ := Fs.val i w hcap.2
      refine hG5 ?_
      have hcz := List.all_eq_true.mp h9 i (by simpa using hcap.1)
      rw [q1] at hcz
      simp only [Bool.and_eq_true, beq_iff_eq] at hcz
      refine ⟨z, W, q1, .inr ⟨?_, ?_⟩, q3.pre (List.prefix_append _ _)⟩
      · show (seenIn env.scope scope).names.lookup z = some .cell
        rw [look_seen hcz.1.2, F.kind, hcz.1.1]; rfl
      · rcases q2 with ⟨a, _⟩ | ⟨_, c, e1, n1⟩
        · have : env.kindOf z = some .cell := hcz.1.1
          rw [this] at a; cases a
        · refine Classical.byContradiction fun hG6 => ?_
          obtain ⟨c', hc'⟩ := hcl2 (z, .free) (mem_of_lookup hcz.1.2) rfl
          refine hG6 ?_
          have := hcl1 _ _ hc'
          rw [e1] at this; cases this
          exact ⟨_, hc', n1.keeps k1⟩
  have hIC : ∀ b, I b → b ≠ C := fun b hb q => by
    obtain ⟨ob, eb⟩ := T.alive 0 s2.heap b P2 hb
    rw [q, dead] at eb; cases eb
  have hID : ∀ b, I b → b ≠ D := fun b hb q => by
    obtain ⟨ob, eb⟩ := T.alive 0 s2.heap b P2 hb
    rw [q, deadD] at eb; cases eb
  let J : Addr → Prop := fun b => b = C ∨ I b
  have hJ : ∀ b, J b → s.heap.get? b = none ∧ B.s1.heap.get? b = none := fun b hb => by
    rcases hb with rfl | hb
    · exact ⟨G2.none dead, R2.base_none dead⟩
    · exact ⟨(N2 b hb).1, (N2 b hb).2.2⟩
  have hJI : ∀ b, I b → ¬ FX cenv b := fun b hb q => by
    rcases q with q | ⟨x, e⟩
    · exact hIC b hb q
    · refine Classical.byContradiction fun hG7 => ?_
      obtain ⟨u, ob, eb, _⟩ := (F.go G2).cells x b (hcl1 x b e)
      refine hG7 ?_
      exact frm_off F (N2 b hb).1 (.inr ⟨x, hcl1 x b e⟩)
  have G3 : Goes J ρ s.heap (ρ2 ++ [D]) h₁ := by
    refine G2.any.trans ⟨List.prefix_append _ _, fun a ha => ?_, fun b o e _ _ => k1 b o e, fun b o e => ⟨o, k1 b o e⟩⟩
    rcases List.mem_append.mp ha with ha | ha
    · exact .inl ha
    · rw [List.mem_singleton] at ha; subst ha; exact .inr deadD
  have P3 : P 0 h₁ := T.stay _ _ _ P2 fun b o _ e => k1 b o e
  have hJ3 : ∀ b, J b → b ∉ ρ2 ++ [D] := fun b hb hm => by
    rcases List.mem_append.mp hm with hm | hm
    · rcases hb with rfl | hb
      · exact R2.fresh dead hm
      · exact (N2 b hb).2.1 hm
    · rw [List.mem_singleton] at hm
      rcases hb with rfl | hb
      · exact hDC hm.symm
      · exact hID b hb hm
  have hjl : cenv.kindOf y = some .local := by
    show (seenIn env.scope scope).names.lookup y = some .local
    rw [look_seen (beq_iff_eq.mp h5)]; rfl
  have hnl : (ρ2 ++ [D])[σ1.length]? = some D := by rw [← R2.len, List.getElem?_append_right (Nat.le_refl _), Nat.sub_self]; rfl
  -- the loop
  have loop : ∀ s₃ : Shared, s₃ = { s2 with heap := h₁, toks := s2.toks + ([] : List (Str × Value)).length } →
      Cd cl B A (.compLoop (.ListComp x [⟨.Name y q, iter, [], 0⟩] scope p) 0 it' (.ref D) cenv) (compPost' cl B A use Q (.ref D) C) s₃ := by
    rintro s₃ rfl
    refine codeAny_compLoop_list (fun n s' => ∃ i σ ρ', n = l.length + 1 - i ∧ i ≤ l.length ∧ compGo (fun v τ => ev O B.ns prices elt (upd η0 j v) τ) σ1.length (fun τ => isL τ o l) (l.drop i) σ = some σ' ∧ Goes J ρ s.heap ρ' s'.heap ∧ Rel B ρ' σ s' ∧ Frm B cenv nm η0 ρ' s'.heap ∧ P i s'.heap ∧ (∀ b, J b → b ∉ ρ') ∧ ρ2 ++ [D] <+: ρ') ?_
      (l.length + 1) ⟨0, σ1 ++ [.list []], ρ2 ++ [D], rfl, Nat.zero_le _, by rw [List.drop_zero]; exact e3, G3, R3, F3, P3, hJ3, List.prefix_refl _⟩
    rintro n s' ⟨i, σ, ρ', rfl, hil, e, G, R, F', hP, hN, hpre⟩
    have still : ∀ {σ : St} {s s' : Shared}, (∀ b o, s.heap.get? b = some o → ¬ I b → s'.heap.get? b = some o) → s'.gens = s.gens → s'.os = s.os → Rel B ρ' σ s → Rel B ρ' σ s' := fun k g o R =>
      R.stillBut I (fun b hb => ⟨hN b (.inr hb), (hJ b (.inr hb)).2⟩) k g o
    cases hx : l[i]? with
    | none =>
      have hd : l.drop i = [] := List.drop_eq_nil_of_le (by rw [List.getElem?_eq_none_iff] at hx; exact hx)
      rw [hd] at e
      unfold compGo at e
      split at e
      · rename_i hok
        cases e
        refine Wp.noted (Wp.mono (T.fin i ρ' _ s' hx hok ((List.prefix_append _ _).trans hpre) R hP (fun b hb => hN b (.inr hb))) fun r s4 ⟨q1, k, g, o4⟩ => ?_)
        subst q1
        have G4 : Goes J ρ s.heap ρ' s4.heap := (fin_goes (I := J) (X := Non) (fun b hb => (hJ b hb).1) (G.mono fun b hb => .inr hb) fun b ob eb nb => k b ob eb fun hb => nb (.inr hb)).any
        refine hend _ _ _ ⟨ρ', J, G4, still k g o4 R, ⟨D, getElem?_pre hpre hnl, rfl⟩, ?_, .inl rfl, fun b hb => ⟨(hJ b hb).1, hN b hb, (hJ b hb).2⟩⟩
        refine Classical.byContradiction fun hG8 => ?_
        obtain ⟨m, n⟩ := F'.ns
        refine hG8 ?_
        exact ⟨m, ns_at n fun ob eb => k _ ob eb fun hb => hIC _ hb rfl⟩
      · first | exact nn e | cases e
    | some xv =>
      have hlt := (List.getElem?_eq_some_iff.mp hx).1
      have hd : l.drop i = xv :: l.drop (i + 1) := by
        rw [List.drop_eq_getElem_cons hlt]
        congr 1
        exact (List.getElem?_eq_some_iff.mp hx).2
      rw [hd] at e
      unfold compGo at e
      split at e
      · rename_i hok
        split at e
        · rename_i w σ4 he4
          split at e
          · rename_i acc hacc
            split at e
            · rename_i hz
              refine Wp.noted (Wp.mono (T.item i ρ' σ s' xv hx hok ((List.prefix_append _ _).trans hpre) R hP (fun b hb => hN b (.inr hb))) fun r s40 ⟨V4, q1, hlet⟩ => ?_)
              subst q1
              refine Wp.mono hlet fun _ s4 ⟨⟨t, ht⟩, hP1, k, g, o4⟩ => ?_
              subst ht
              have R4 := still k g o4 R
              have F4 : Frm B cenv nm η0 ρ' s4.heap := F'.keeps (List.prefix_refl _) (fun _ h => .inl h) fun b ob hb eb => k b ob eb fun q => hJI b q hb
              have G4 : Goes J ρ' s'.heap ρ' s4.heap := (but_goes (X := Non) k fun b hb => T.alive _ _ b hP1 hb).mono fun b hb => hb.elim False.elim .inr
              refine wpAny_assign_Name (Wp.mono (leaf (store_local hy hjl R4 F4 (v := .int xv) ⟨t, rfl⟩)) fun _ s5 ⟨G5, R5, F5⟩ => ?_)
              have G5' : Goes J ρ' s4.heap ρ' s5.heap := G5.mono fun b hb => .inl hb
              have hP2 : P (i + 1) s5.heap := T.stay _ _ _ hP1 fun b ob hb eb => G5.keep b ob eb (hN b (.inr hb)) (hIC b hb)
              refine Wp.noted (Wp.pv (he x cenv _ _ _ _ _ s5 h2 he4 R5 F5) fun W s6 ρ6 G6 R6 m6 => ?_)
              refine Classical.byContradiction fun hG9 => ?_
              obtain ⟨t6, rfl⟩ := m6
              have hpre6 := hpre.trans G6.pre
              have hD6 : ρ6[σ1.length]? = some D := getElem?_pre hpre6 hnl
              obtain ⟨vs, ep, ia, ja⟩ := R6.list_at hD6 hacc
              refine hG9 ?_
              refine leaf (append_exact ia (by rw [List.size_toArray, ja.length]; exact lineOf_size hz) ?_)
              have new : OM B ρ6 (s6.heap.update D (Obj.mapSeq fun xs => xs.push (.int w t6))) D (.list (acc ++ [w])) :=
                ⟨vs ++ [.int w t6], ep + 1, (Heap.get?_update_self _ ia rfl).trans (by simp [Obj.mapSeq]), ja.append (.cons w t6 .nil)⟩
              have so : ∀ b, b ≠ D → (s6.heap.update D (Obj.mapSeq fun xs => xs.push (.int w t6))).get? b = s6.heap.get? b := update_other _
              have R7 := R6.put (tk := s6.toks) hD6 new so
              have G7 : Goes Non ρ6 s6.heap ρ6 (s6.heap.update D (Obj.mapSeq fun xs => xs.push (.int w t6))) := goes_put hD6 new.alive so
              have F6 := ((F5.go G6).go G7).drop (s := { s6 with heap := s6.heap.update D (Obj.mapSeq fun xs => xs.push (.int w t6)) }) hj0
              refine ⟨l.length + 1 - (i + 1), by (first | omega | lia), i + 1, _, ρ6, rfl, hlt, e, (((G.trans G4).trans G5').trans G6.any).trans G7.any, R7, F6, ?_, ?_, hpre6⟩
              · refine T.stay _ _ _ hP2 fun b ob hb eb => ?_
                exact (G6.trans G7).keep b ob eb (hN b (.inr hb)) id
              · intro b hb hm
                rcases G6.new b hm with h | h
                · exact hN b hb h
                · rcases hb with rfl | hb
                  · obtain ⟨ob, eb⟩ := F5.lt (.inl rfl : FX cenv cenv.locals)
                    rw [show cenv.locals = b from rfl, h] at eb; cases eb
                  · obtain ⟨ob, eb⟩ := T.alive _ _ b hP2 hb
                    rw [h] at eb; cases eb
            · first | exact nn e | cases e
          · first | exact nn e | cases e
        · first | exact nn e | cases e
      · first | exact nn e | cases e
  exact codeAny_compStart_list (loop _ rfl) (Wp.noted (T.self 0 _ _ P3 (loop _ rfl)))
end
end Tk

namespace Tk
open PySem PySem.W PyProof.Rows PySem.Calls
section
variable {cl : Bool} {B : Bs} {O : Orc} {nm : List Str} {A : Around} {env : Env} {η η' : En} {σ σ' σ₁ : St} {ρ ρ' : List Addr} {s s' : Shared} {v : AV} {V : Value}

theorem CompEnd'.fin {acc : Value} {C : Addr} {h' : Heap} (z : CompEnd' B ρ s σ' v acc C s') (hs : Heap.SameBut C s'.heap h') : PV B ρ s σ' v acc { s' with heap := h' } := by
  refine Classical.byContradiction fun hG0 => ?_
  obtain ⟨ρ', J, G, R, m, _, hC, hJ⟩ := z
  refine hG0 ?_
  exact ⟨ρ', fin_goes (I := J) (X := Non) (fun b hb => (hJ b hb).1) (G.mono fun b hb => .inr hb) fun b o e nb => (hs.2 b fun q => nb (q ▸ hC)).trans e,
    R.stillBut J (fun b hb => (hJ b hb).2) (fun b o e nb => (hs.2 b fun q => nb (q ▸ hC)).trans e) rfl rfl, m⟩
theorem ok_comp {elt : E} {j : Nat} {cap : List Nat} {it : It} (hr : Room A 0) (hi : ItOK cl B O nm A it) (he : EvOK cl B O nm A elt) : EvOK cl B O nm A (.comp elt j cap it) := fun ast env η σ v σ' ρ s hc e R F => by
  refine Classical.byContradiction fun hG0 => ?_
  obtain ⟨x, y, q, iter, scope, p, rfl, h⟩ := chk_comp hc
  refine hG0 ?_
  show Wp cl B A (comprehension (.ListComp x [⟨.Name y q, iter, [], 0⟩] scope p) scope env _ (newList []) false (eval iter env)) _ s
  refine comp_core (use := none) hr hi he hc e R F fun acc C s' z => ?_
  refine Classical.byContradiction fun hG1 => ?_
  obtain ⟨m, n⟩ : ∃ m, s'.heap.Ns C m := by obtain ⟨_, _, _, _, _, n, _⟩ := id z; exact n
  refine hG1 ?_
  exact ⟨m, n, fun h' hs => z.fin hs⟩
theorem sx_asgComp {i : Nat} {e : E} (hr : Room A 0) (hcmp : ∀ elt j cap it, e = .comp elt j cap it → ItOK cl B O nm A it ∧ EvOK cl B O nm A elt) : SxOK cl B O nm A (.asgComp i e) := fun ast env η σ fl η' σ' ρ s hc e0 R F => by
  refine chzS_asgComp hc fun x p val pos h => ?_
  obtain ⟨⟨h1, h2⟩, h3⟩ := A3 h
  cases val <;> first | (exact absurd h3 Bool.false_ne_true) | skip
  rename_i elt' gens scope q
  refine mapE e0 fun w σ1 e1 e2 => ?_
  cases e2
  refine Classical.byContradiction fun hG0 => ?_
  obtain ⟨elt, j, cap, it, rfl⟩ : ∃ elt j cap it, e = .comp elt j cap it := by
    cases e <;> first | exact ⟨_, _, _, _, rfl⟩ | (exact absurd h2 Bool.false_ne_true) | skip
    rename_i f _
    cases f <;> exact absurd h2 Bool.false_ne_true
  obtain ⟨hi, he⟩ := hcmp _ _ _ _ rfl
  obtain ⟨x', y, q', iter, scope', p', hq, _⟩ := chk_comp h2
  refine hG0 ?_
  injection hq with a b c d
  subst a b c d
  have h3' := A3 h3
  have h4 := eq_of_beq h3'.1.1
  have h5 := h3'.1.2
  have h6 := h3'.2
  have hsw : swapsWith (.ListComp elt' [⟨.Name y q', iter, [], 0⟩] scope q) (some (.Name x p)) pos.line env = pure true := by
    have : (env.blockKind == .function && env.kindOf x == some .local && p.line == q.line && !(scope.names.any fun n => n.1 == x && (n.2 == .local || n.2 == .cell))) = true := by
      have b : env.blockKind = .function := by unfold Env.blockKind; rw [F.kind]; rfl
      have c : env.kindOf x = some .local := h4
      rw [b, c, h5, h6]; rfl
    show ((pure (env.blockKind == .function && env.kindOf x == some .local && p.line == q.line && !(scope.names.any fun n => n.1 == x && (n.2 == .local || n.2 == .cell))) : Sem Bool)) = pure true
    rw [this]
  rw [exec_Assign_Name_used _ _ _ _ hsw]
  refine wpAny_bind (wpAny_standAt (wpAny_bind ?_))
  show Wp cl B A (do let _ ← comprehension (.ListComp elt' [⟨.Name y q', iter, [], 0⟩] scope q) scope env _ (newList []) false (eval iter env) (some (assign (.Name x p) env))) _ s
  refine wpAny_bind (Wp.mono (comp_core (use := some (assign (.Name x p) env)) (Q := fun _ s' => PX B env nm ρ s (upd η i w) σ1 .next .next s') hr hi he h2 e1 R F fun acc C s' z => ?_) fun _ s' hq => wpAny_pure (wpAny_pure hq))
  obtain ⟨ρ', J, G, R', m', ⟨mm, n⟩, hC, hJ⟩ := z
  have F' : Frm B env nm η ρ' s'.heap := F.keeps G.pre G.new fun b o hb e => G.keep b o e (F.own b hb).1 fun q => by rw [(hJ b q).1] at e; cases e
  have hnm := (isVar_of h1).1
  refine wpAny_assign_Name (Wp.mono (leaf (store_local hnm h4 R' F' m')) fun _ s2 ⟨G2, R2, F2⟩ => ?_)
  have hCl : C ≠ env.locals := fun q => frm_off F (hJ C hC).1 (.inl q)
  refine ⟨mm, ns_at n fun o e => G2.keep _ o e (hJ C hC).2.1 hCl, fun h' hs => ?_⟩
  have k : ∀ b o, s2.heap.get? b = some o → ¬ J b → h'.get? b = some o := fun b o e nb => (hs.2 b fun q => nb (q ▸ hC)).trans e
  have G3 : Goes (FX env) ρ s.heap ρ' h' := fin_goes (I := J) (fun b hb => (hJ b hb).1) ((G.mono fun b hb => .inr hb).trans (G2.mono fun b hb => .inl (.inl hb))) k
  refine ⟨ρ', G3, R2.stillBut J (fun b hb => (hJ b hb).2) k rfl rfl, F2.keeps (List.prefix_refl _) (fun _ h => .inl h) fun b o hb e => k b o e fun q => frm_off F (hJ b q).1 hb, rfl⟩
end
end Tk

namespace Tk
open PySem PySem.W PyProof.Rows PySem.Calls
theorem bts_lookup : typeLookup (.type "bytes") "__bytes__" = pure (some (.builtin "bytes.__bytes__")) := by rw [typeLookup_type, builtinLookup_eq_fast]; kernel_rfl
theorem bar_no_bytes : typeLookup (.type "bytearray") "__bytes__" = pure none := by rw [typeLookup_type, builtinLookup_eq_fast]; kernel_rfl
theorem bar_no_index : typeLookup (.type "bytearray") "__index__" = pure none := by rw [typeLookup_type, builtinLookup_eq_fast]; kernel_rfl
theorem bar_buffer : typeLookup (.type "bytearray") "__buffer__" = pure (some (.builtin "bytearray.__buffer__")) := by rw [typeLookup_type, builtinLookup_eq_fast]; kernel_rfl
theorem bar_release : typeLookup (.type "bytearray") "__release_buffer__" = pure (some (.builtin "bytearray.__release_buffer__")) := by rw [typeLookup_type, builtinLookup_eq_fast]; kernel_rfl
theorem bar_sub : isSubtype (.type "bytearray") (.type "bytearray") = pure true := by rw [isSubtype_type]; kernel_rfl
section
variable {cl : Bool} {B : Bs} {O : Orc} {nm : List Str} {A : Around} {env : Env} {η η' : En} {σ σ' σ₁ : St} {ρ ρ' : List Addr} {s s' : Shared} {v : AV} {V : Value}

theorem bytes_new {x : Value} {Q : Value → Shared → Prop} (h : wpAny (model pw B.w) A.in1 (Builtin.«bytes.__new__» ⟨[.type "bytes", x], []⟩) (fun fin s' => match fin with | .done (.ret v) => Q v s' | _ => False) (fun _ _ => False) s) :
    codeAny (model pw B.w) A (.call (.builtin "bytes.__new__") ⟨[.type "bytes", x], []⟩) (wants Q fun _ _ => False) s := by
  refine PySem.codeAny_of_tree ?_
  show wpAny _ A.in1 (do checkBuiltinCall "bytes.__new__" ⟨[.type "bytes", x], []⟩; again (.builtin "bytes.__new__" ⟨[.type "bytes", x], []⟩)) _ _ s
  refine PySem.wpAny_bind (PySem.wpAny_of_eq (F.bm_newCall _) (PySem.wpAny_pure ⟨plainId_quiet F.bm_plain _, codeAny_builtin F.bm_entry ?_⟩))
  rw [Around.under_plainId F.bm_plain _]
  refine wpAny_mono h (fun fin s' z => ?_) fun _ _ z => z.elim
  rcases fin with (_ | _ | _ | _) | _ <;> first | exact z | exact z.elim
/-- bytes of a bytes: itself -/
theorem bytes_bytes {b : Array UInt8} {t : Tok} {Q : Value → Shared → Prop} (hQ : Q (.bytes b t) s) : WpA B A (call (.type "bytes") [.bytes b t]) Q s := by
  refine callType_codes (Q₁ := fun obj s₁ => s₁.TypeIs obj "bytes" ∧ Q obj s₁) F.bm_called (F.bm_typeCall _) F.entry_object_init ?_ fun obj s₁ h₁ => ?_
  · refine bytes_new ?_
    have hT : s.TypeIs (.bytes b t) "bytes" := typeIs_bytes _ _ _
    unfold Builtin.«bytes.__new__»
    refine PySem.wpAny_bind (PySem.wpAny_of_eq (a := true) rfl ?_)
    refine bm_if_false rfl ?_
    refine PySem.wpAny_bind (PySem.wpAny_of_eq F.bm_sub ?_)
    refine bm_if_false rfl ?_
    refine PySem.wpAny_bind (PySem.wpAny_of_eq (F.bm_bind _) ?_)
    refine PySem.wpAny_bind (PySem.wpAny_of_eq (a := ()) rfl ?_)
    refine PySem.wpAny_bind (PySem.wpAny_of_eq (a := ()) rfl ?_)
    refine bm_if_false rfl ?_
    refine PySem.wpAny_bind (wpAny_specialOf hT bts_lookup ?_)
    refine PySem.wpAny_bind (PySem.wpAny_rule ?_)
    refine PySem.wpAny_bind (wpAny_typeOf hT ?_)
    refine bm_if_true rfl ?_
    exact PySem.wpAny_pure ⟨hT, hQ⟩
  · exact ⟨h₁.1, F.args_object_init_2 obj _, object_init_meets F.bm_called.init.lookup F.bm_called.made (by decide) pw B.w A.in1 _ s₁ ⟨h₁.1, rfl, h₁.2⟩⟩
theorem own_slot {a : Addr} {name : String} {id : String} {Q : Bool → Shared → Prop} (hT : s.TypeIs (.ref a) "bytearray") (hl : typeLookup (.type "bytearray") (name : Str) = pure (some (.builtin id))) (h1 : id.endsWith ("." ++ name) = true) (h2 : id.dropRight (name.length + 1) = "bytearray") (hQ : Q true s) :
    WpA B A (Builtin.Bytes.slotIsOwn (.ref a) name) Q s := by
  unfold Builtin.Bytes.slotIsOwn
  refine PySem.wpAny_bind (wpAny_specialOf hT hl ?_)
  dsimp only
  rw [h1]
  refine bm_if_false rfl ?_
  rw [h2]
  exact wpAny_isInstance hT bar_sub hQ
theorem own_buf {a : Addr} {Q : Bool → Shared → Prop} (hT : s.TypeIs (.ref a) "bytearray") (hQ : Q true s) : WpA B A (Builtin.Bytes.slotIsOwn (.ref a) "__buffer__") Q s :=
  own_slot hT bar_buffer (by decide +kernel) (by decide +kernel) hQ
theorem own_rel {a : Addr} {Q : Bool → Shared → Prop} (hT : s.TypeIs (.ref a) "bytearray") (hQ : Q false s) : WpA B A (Builtin.Bytes.ownRelease (.ref a)) Q s := by
  unfold Builtin.Bytes.ownRelease
  exact PySem.wpAny_bind (own_slot hT bar_release (by decide +kernel) (by decide +kernel) (PySem.wpAny_pure hQ))
theorem payload_barr {a : Addr} {b : Array UInt8} {Q : Array UInt8 → Shared → Prop} (ha : s.heap.get? a = some ⟨.type "bytearray", none, .bytearray b 0, #[]⟩) (hQ : Q b s) : WpA B A (Builtin.Bytes.payload (.ref a)) Q s := by
  unfold Builtin.Bytes.payload Builtin.Bytes.payload?
  refine PySem.wpAny_bind (PySem.wpAny_bind (wpAny_load ha (PySem.wpAny_pure ?_)))
  exact PySem.wpAny_pure hQ
/-- bytes of a bytearray -/
theorem bytes_barr {a : Addr} {b : Array UInt8} {Q : Value → Shared → Prop} (ha : s.heap.get? a = some ⟨.type "bytearray", none, .bytearray b 0, #[]⟩) (hz : b.size ≤ sizeLine) (hQ : Q (.bytes b s.toks) { s with toks := s.toks + 1 }) : WpA B A (call (.type "bytes") [.ref a]) Q s := by
  refine callType_codes (Q₁ := fun obj s₁ => s₁.TypeIs obj "bytes" ∧ Q obj s₁) F.bm_called (F.bm_typeCall _) F.entry_object_init ?_ fun obj s₁ h₁ => ?_
  · refine bytes_new ?_
    have hT : s.TypeIs (.ref a) "bytearray" := ⟨_, ha, rfl⟩
    unfold Builtin.«bytes.__new__»
    refine PySem.wpAny_bind (PySem.wpAny_of_eq (a := true) rfl ?_)
    refine bm_if_false rfl ?_
    refine PySem.wpAny_bind (PySem.wpAny_of_eq F.bm_sub ?_)
    refine bm_if_false rfl ?_
    refine PySem.wpAny_bind (PySem.wpAny_of_eq (F.bm_bind _) ?_)
    refine PySem.wpAny_bind (PySem.wpAny_of_eq (a := ()) rfl ?_)
    refine PySem.wpAny_bind (PySem.wpAny_of_eq (a := ()) rfl ?_)
    refine bm_if_false rfl ?_
    refine PySem.wpAny_bind (wpAny_specialOf hT bar_no_bytes ?_)
    refine PySem.wpAny_bind (PySem.wpAny_bind ?_)
    show wpAny _ _ (load a >>= _) _ _ _
    refine PySem.wpAny_bind (wpAny_load ha ?_)
    refine PySem.wpAny_pure (PySem.wpAny_pure ?_)
    refine bm_if_false rfl ?_
    refine PySem.wpAny_bind (wpAny_specialOf hT bar_no_index ?_)
    refine bm_if_true rfl ?_
    first
      | show wpAny _ _ (Builtin.Bytes.buffer? "bytes.__new__" (.ref a) true >>= _) _ _ _
      | (refine PySem.wpAny_bind ?_; show wpAny _ _ (Builtin.Bytes.buffer? "bytes.__new__" (.ref a) true >>= _) _ _ _)
    refine PySem.wpAny_bind ?_
    unfold Builtin.Bytes.buffer?
    refine PySem.wpAny_bind (wpAny_specialOf hT bar_buffer ?_)
    dsimp only
    refine PySem.wpAny_bind (own_buf hT ?_)
    refine bm_if_false rfl ?_
    refine PySem.wpAny_bind (wpAny_specialOf hT bar_buffer ?_)
    refine PySem.wpAny_bind (own_rel hT ?_)
    refine bm_if_false rfl ?_
    refine PySem.wpAny_bind (payload_barr ha (PySem.wpAny_pure ?_))
    refine PySem.wpAny_bind (PySem.wpAny_rule ?_)
    unfold mkBytes
    rw [if_neg (Nat.not_lt.mpr hz)]
    refine PySem.wpAny_bind (PySem.wpAny_bind (wpAny_fresh (PySem.wpAny_pure ?_)))
    exact PySem.wpAny_pure ⟨typeIs_bytes _ _ _, hQ⟩
  · exact ⟨h₁.1, F.args_object_init_2 obj _, object_init_meets F.bm_called.init.lookup F.bm_called.made (by decide) pw B.w A.in1 _ s₁ ⟨h₁.1, rfl, h₁.2⟩⟩
end
end Tk

namespace Tk
open PySem PySem.W PyProof.Rows PySem.Calls
section
variable {cl : Bool} {B : Bs} {A : Around} {h : Heap} {g : Array GenState} {d : Drawn} {t : Nat} {os : OsState} {C fI : Addr}
theorem cd_builtin {id : String} {args : Args} {b : Builtin} {R : Result → Shared → Prop} {s : Shared} (hd : decoder (.builtin id args) = false) (hb : entryFor table id = some b)
    (h : Wp cl B (A.under (.builtin id args)) (b args) (fun fin s' => match fin with | .done f => R (.ok f) s' | .again c' => c'.quiet = true ∧ Cd cl B A c' R s') s) : Cd cl B A (.builtin id args) R s := by
  refine codeAny_of_tree hd ?_
  show Wp cl B _ (match entryFor table id with | some b => b args | none => unsupported ((withoutEnding? id "#data").getD id)) _ s
  rw [hb]; exact h
theorem cd_call_builtin {id : String} {args : Args} {b : Builtin} {R : Result → Shared → Prop} {s : Shared} (hq : (Code.builtin id args).quiet = true) (hd : decoder (.builtin id args) = false) (hb : entryFor table id = some b)
    (h : Wp cl B A.in1 (checkBuiltinCall id args) (fun _ s₁ => Wp cl B (A.under (.builtin id args)) (b args) (fun fin s' => match fin with | .done f => R (.ok f) s' | .again c' => c'.quiet = true ∧ Cd cl B A c' R s') s₁) s) : Cd cl B A (.call (.builtin id) args) R s := by
  refine codeAny_of_tree rfl ?_
  show Wp cl B A.in1 (do checkBuiltinCall id args; again (.builtin id args)) _ s
  exact wpAny_bind (h.mono fun _ s₁ h₁ => wpAny_pure ⟨hq, cd_builtin hd hb h₁⟩)
theorem make_S {rest : List Value} {R : Shared → Prop} (Y : Makes (model pw B.w) h C) (hi : Looks (model pw B.w) h (typeLookup (.ref C) "__init__") (some (.ref fI)))
    (hb : ∀ self, Looks (model pw B.w) h (bindSpecial (.ref fI) self) (.ref fI, [self]))
    (hq : Cd cl B (A.under (.builtin "type.__call__" ⟨.ref C :: rest, []⟩)) (.call (.ref fI) ⟨.ref (h.objs.size + 1) :: rest, []⟩) (fun r s' => r = .ok (.ret .none) ∧ R s') ⟨(h.push emptyDict).push (instObj C h.objs.size), g, d, t, os⟩) :
    Cd cl B A (.call (.ref C) ⟨rest, []⟩) (fun r s' => r = .ok (.ret (.ref (h.objs.size + 1))) ∧ R s') ⟨h, g, d, t, os⟩ := by
  refine Classical.byContradiction fun hG0 => ?_
  have Y' := Y
  obtain ⟨⟨oc, od, cd, sl, hC, e1, e2, e4⟩, made, base, self, top, call, typ⟩ := Y
  refine hG0 ?_
  refine codeAny_of_tree rfl ?_
  show Wp cl B _ (callAny (.ref C) _) _ _
  simp only [callAny]
  refine wpAny_bind (leaf (wpAny_load hC ?_))
  show Wp cl B _ (callAny.viaDunder (.ref C) _) _ _
  unfold callAny.viaDunder
  refine wpAny_bind (leaf (call.at ?_))
  dsimp only
  rw [tc_bind]
  refine wpAny_bind (wpAny_pure (wpAny_bind (wpAny_pure ?_)))
  refine wpAny_pure (a := Fin.again (.call (.builtin "type.__call__") ⟨.ref C :: rest, []⟩)) (And.intro rfl ?_)
  refine cd_call_builtin (Code.quiet_builtin _ (by decide +kernel)) (by show holders.contains "type.__call__" = false; decide +kernel) entry_typeCall (leaf (check_slot tc_kind tc_split typ (tc_args _ _ _) ?_))
  unfold Builtin.«type.__call__»
  have hm : Looks (model pw B.w) h (mroOf (.ref C)) cd.mro := ((Looks.ld (part := none) hC).andThen .now).andThen .now
  dsimp only
  rw [if_neg (show ¬ ((Value.ref C == Value.type "type") = true) from Bool.false_ne_true)]
  refine wpAny_bind (leaf (hm.at ?_))
  rw [e4, if_neg Bool.false_ne_true]
  refine wpAny_bind (leaf (made.at ?_))
  dsimp only
  refine wpAny_bind (wpAny_pure ?_)
  refine wpAny_bind (wpAny_holding (leaf (PySem.wpAny_call (new_K Y' hi (.inl rfl) ?_))))
  have k : ∀ b o, h.get? b = some o → ((h.push emptyDict).push (instObj C h.objs.size)).get? b = some o := fun b o e => Heap.get?_push_of_some _ (Heap.get?_push_of_some _ e)
  have hx : ((h.push emptyDict).push (instObj C h.objs.size)).get? (h.objs.size + 1) = some (instObj C h.objs.size) := by
    have := Heap.get?_push_size (h.push emptyDict) (o := instObj C h.objs.size) rfl
    rwa [Heap.size_push] at this
  have t1 : Looks (model pw B.w) ((h.push emptyDict).push (instObj C h.objs.size)) (typeOf (.ref (h.objs.size + 1))) (.ref C) := (Looks.ld hx).andThen .now
  have s1 := self.keeps k
  have i1 := hi.keeps k
  have b1 := (hb (.ref (h.objs.size + 1))).keeps k
  have isI : Looks (model pw B.w) ((h.push emptyDict).push (instObj C h.objs.size)) (isInstance (.ref (h.objs.size + 1)) (.ref C)) true := by unfold isInstance; exact t1.andThen s1
  refine wpAny_bind (leaf (isI.at ?_))
  rw [if_neg (by decide)]
  refine wpAny_bind (wpAny_holding ?_)
  have spI : Looks (model pw B.w) ((h.push emptyDict).push (instObj C h.objs.size)) (specialOf (.ref (h.objs.size + 1)) "__init__") (some (.ref fI)) := by unfold specialOf; exact t1.andThen i1
  unfold callSpecial?
  refine wpAny_bind (leaf (spI.at ?_))
  dsimp only
  refine wpAny_holding (wpAny_bind (leaf (b1.at ?_)))
  dsimp only
  refine wpAny_bind (wpAny_call (hq.mono fun r s' z => ?_))
  refine Classical.byContradiction fun hG1 => ?_
  obtain ⟨rfl, z⟩ := z
  refine hG1 ?_
  exact wpAny_pure (wpAny_pure ⟨rfl, z⟩)

theorem any_stack {f : Code × Pos → Bool} {s : Shared} {Q : Bool → Shared → Prop} {Γ : Ctx} {p : Pos} {E : Value → Pos → Shared → Prop} {M : Model} (h : Q false s) (hf : ∀ x ∈ (Γ.code, p) :: Γ.below, f x = false) :
    Sem.wp M Γ (stack >>= fun l => pure (l.any f)) (fun b _ s' => Q b s') E p s :=
  (congrArg (fun z => Q z s) (List.any_eq_false.mpr fun x hx => by rw [hf x hx]; exact Bool.false_ne_true)).mpr h
theorem exported_false {a : Addr} {s : Shared} {Q : Bool → Shared → Prop} (h : Q false s) : Wp true B A (Builtin.Bytes.exported (.ref a)) Q s := fun Γ p hΓ hc => by
  obtain ⟨h1, h2⟩ := hc rfl
  refine any_stack h fun x hx => ?_
  have k : decoder x.1 = false := by
    rcases List.mem_cons.mp hx with rfl | hx
    · exact h1
    · exact h2 x hx
  clear hx h h1 h2
  obtain ⟨c, q⟩ := x
  cases c <;> first | rfl | skip
  rename_i id args
  have k : holders.contains id = false := k
  have hid : ∀ w ∈ holders, id ≠ w := fun w hw e => by
    subst e
    rw [List.contains_iff_mem.mpr hw] at k; cases k
  have hdec : Builtin.Bytes.decodersThatHold.contains id = false := by
    cases z : Builtin.Bytes.decodersThatHold.contains id with
    | false => rfl
    | true => exact absurd rfl (hid id (List.mem_append_right _ (List.contains_iff_mem.mp z)))
  delta Builtin.Bytes.exported.match_1
  refine (dif_neg (hid _ (by decide +kernel))).trans ((dif_neg (hid _ (by decide +kernel))).trans ((dif_neg (hid _ (by decide +kernel))).trans ((dif_neg (hid _ (by decide +kernel))).trans ((dif_neg (hid _ (by decide +kernel))).trans ?_))))
  obtain ⟨pos, kw⟩ := args
  cases pos with
  | nil => rfl
  | cons v l => exact (congrArg _ hdec).trans (Bool.and_false _)
end
end Tk

namespace Tk
open PySem PySem.W PyProof.Rows PySem.Calls
noncomputable abbrev barrObj (b : Array UInt8) : Obj := ⟨.type "bytearray", none, .bytearray b 0, #[]⟩
theorem slot_bap : Slot "bytearray" "append" "bytearray.append" :=
  .of (owner := "bytearray") (n := "append") (by rw [typeLookup_type, builtinLookup_eq_fast]; kernel_rfl) (by decide +kernel) (by decide +kernel) (by decide +kernel)
    (by first | exact .inl (by decide +kernel) | exact .inr (by decide +kernel)) (by rw [isSubtype_type]; kernel_rfl)
theorem slot_bex : Slot "bytearray" "extend" "bytearray.extend" :=
  .of (owner := "bytearray") (n := "extend") (by rw [typeLookup_type, builtinLookup_eq_fast]; kernel_rfl) (by decide +kernel) (by decide +kernel) (by decide +kernel)
    (by first | exact .inl (by decide +kernel) | exact .inr (by decide +kernel)) (by rw [isSubtype_type]; kernel_rfl)
theorem type_bap : typeOf (.builtin "bytearray.append") = pure (.type "method_descriptor") := by show builtinType _ = _; rw [builtinType_eq_fast]; kernel_rfl
theorem type_bex : typeOf (.builtin "bytearray.extend") = pure (.type "method_descriptor") := by show builtinType _ = _; rw [builtinType_eq_fast]; kernel_rfl
theorem entry_bap : entryFor table "bytearray.append" = some Builtin.«bytearray.append» := entryFor_of_tree (by kernel_rfl)
theorem entry_bex : entryFor table "bytearray.extend" = some Builtin.«bytearray.extend» := entryFor_of_tree (by kernel_rfl)
theorem call_bap (a b : Value) : argsOk "bytearray.append" ⟨[a, b], []⟩ := by unfold argsOk; kernel_rfl
theorem call_bex (a b : Value) : argsOk "bytearray.extend" ⟨[a, b], []⟩ := by unfold argsOk; kernel_rfl
theorem plainAttrs_bar : PlainAttrs "bytearray" :=
  ⟨⟨"bytearray.__getattribute__", by rw [typeLookup_type, builtinLookup_eq_fast]; kernel_rfl, by decide +kernel⟩, by rw [typeLookup_type, builtinLookup_eq_fast]; kernel_rfl⟩
section
variable {cl : Bool} {B : Bs} {A : Around} {s : Shared} {a : Addr} {b : Array UInt8}
theorem resize_ok {Q : Unit → Shared → Prop} (ha : s.heap.get? a = some (barrObj b)) (h : Q () s) : Wp true B A (Builtin.Bytes.checkResize (.ref a)) Q s := by
  unfold Builtin.Bytes.checkResize
  refine wpAny_bind (wpAny_bind (exported_false ?_))
  show Wp true B A (do return decide ((← Builtin.Bytes.exportsOf (.ref a)) > 0)) _ s
  unfold Builtin.Bytes.exportsOf
  refine wpAny_bind (wpAny_bind (leaf (wpAny_load ha ?_)))
  exact wpAny_pure (wpAny_pure (wpAny_pure h))
theorem write_ok {f : Array UInt8 → Array UInt8} {Q : Unit → Shared → Prop} (ha : s.heap.get? a = some (barrObj b)) (hz : (f b).size ≤ sizeLine) (h : Q () { s with heap := s.heap.update a (Obj.mapBytearray f) }) : Wp cl B A (Builtin.Bytes.write (.ref a) f) Q s := by
  unfold Builtin.Bytes.write updateBytearray
  refine wpAny_bind (leaf (wpAny_load ha ?_))
  refine wpAny_bind (leaf (wpAny_update ha ?_))
  refine leaf (wpAny_lookBehind (o := barrObj (f b)) (Heap.get?_update_self _ ha rfl) ?_ h)
  show (if (f b).size > sizeLine then some "bytearray:memory" else none) = none
  rw [if_neg (Nat.not_lt.mpr hz)]
theorem append_call {i : Int} {t : Tok} {Q : Value → Shared → Prop} (ha : s.heap.get? a = some (barrObj b)) (h0 : 0 ≤ i) (h1 : i < 256) (hz : b.size + 1 ≤ sizeLine) (h : Q .none { s with heap := s.heap.update a (Obj.mapBytearray (·.push i.toNat.toUInt8)) }) :
    Wp true B A (call (.builtin "bytearray.append") [.ref a, .int i t]) Q s := by
  refine wpAny_call (cd_call_builtin (Code.quiet_builtin _ (by decide +kernel)) (by show holders.contains "bytearray.append" = false; decide +kernel) entry_bap ?_)
  have hT : s.TypeIs (.ref a) "bytearray" := ⟨_, ha, rfl⟩
  have hc : WpA B A.in1 (checkBuiltinCall "bytearray.append" ⟨[.ref a, .int i t], []⟩) (fun _ s' => s' = s) s := slot_bap.check _ _ _ _ _ _ _ _ hT (call_bap _ _) rfl
  refine (leaf hc).mono fun _ s' q => ?_
  subst q
  unfold Builtin.«bytearray.append»
  refine wpAny_bind (wpAny_of_eq (a := (Value.ref a, Value.int i t)) rfl ?_)
  dsimp only
  unfold Builtin.Bytes.byteValue
  refine wpAny_bind (wpAny_bind (wpAny_of_eq (a := i) rfl ?_))
  have hi : (decide (i < 0) || decide (i ≥ 256)) = false := by simp; (first | lia | omega)
  rw [hi]
  refine wpAny_pure ?_
  refine wpAny_bind (resize_ok ha ?_)
  refine wpAny_bind (write_ok ha (by rw [Array.size_push]; exact hz) ?_)
  exact wpAny_pure h
theorem extend_call {c : Array UInt8} {t : Tok} {Q : Value → Shared → Prop} (ha : s.heap.get? a = some (barrObj b)) (hz : b.size + c.size ≤ sizeLine) (h : Q .none { s with heap := s.heap.update a (Obj.mapBytearray (· ++ c)) }) :
    Wp true B A (call (.builtin "bytearray.extend") [.ref a, .bytes c t]) Q s := by
  refine wpAny_call (cd_call_builtin (Code.quiet_builtin _ (by decide +kernel)) (by show holders.contains "bytearray.extend" = false; decide +kernel) entry_bex ?_)
  have hT : s.TypeIs (.ref a) "bytearray" := ⟨_, ha, rfl⟩
  have hc : WpA B A.in1 (checkBuiltinCall "bytearray.extend" ⟨[.ref a, .bytes c t], []⟩) (fun _ s' => s' = s) s := slot_bex.check _ _ _ _ _ _ _ _ hT (call_bex _ _) rfl
  refine (leaf hc).mono fun _ s' q => ?_
  subst q
  have hb : s'.TypeIs (.bytes c t) "bytes" := typeIs_bytes _ _ _
  unfold Builtin.«bytearray.extend»
  refine wpAny_bind (wpAny_of_eq (a := (Value.ref a, Value.bytes c t)) rfl ?_)
  dsimp only
  refine wpAny_bind (leaf (wpAny_specialOf hb KBy.look_buffer ?_))
  rw [if_pos (show (some (Value.builtin "bytes.__buffer__")).isSome = true from rfl)]
  refine wpAny_bind (wpAny_rule ?_)
  refine wpAny_bind (leaf (payload_barr ha ?_))
  have htake : WpA B (A.under (.builtin "bytearray.extend" ⟨[.ref a, .bytes c t], []⟩)) (Builtin.Bytes.takeBuffer? "bytearray.extend" (.bytes c t) 0) (fun r s'' => r = some (c, none) ∧ s'' = s') s' := by
    unfold Builtin.Bytes.takeBuffer?
    refine PySem.wpAny_bind (wpAny_specialOf hb KBy.look_buffer ?_)
    dsimp only
    refine PySem.wpAny_bind (PySem.wpAny_of_eq KBy.own_buffer ?_)
    refine bm_if_false rfl ?_
    refine PySem.wpAny_bind (wpAny_specialOf hb KBy.look_buffer ?_)
    refine PySem.wpAny_bind (PySem.wpAny_of_eq (a := some c) KBy.buffer_eq ?_)
    exact PySem.wpAny_pure ⟨rfl, rfl⟩
  unfold Builtin.Bytes.takeBufferQuiet?
  refine wpAny_bind (wpAny_bind (wpAny_attempt ((leaf htake).mono fun r s'' q => ?_)))
  obtain ⟨rfl, rfl⟩ := q
  refine wpAny_pure ?_
  dsimp only
  rw [if_pos (show (none : Option Value).isNone = true from rfl)]
  have fin : Wp true B (A.under (.builtin "bytearray.extend" ⟨[.ref a, .bytes c t], []⟩)) (do Builtin.Bytes.write (.ref a) (· ++ c); ret .none) (fun fin s' => match fin with | .done f => Ret Q (.ok f) s' | .again c' => c'.quiet = true ∧ Cd true B A c' (Ret Q) s') s'' :=
    wpAny_bind (write_ok ha (by rw [Array.size_append]; exact hz) (wpAny_pure h))
  show Wp true B _ (if (!c.isEmpty) = true then (Builtin.Bytes.checkResize (.ref a) >>= fun _ => (Builtin.Bytes.write (.ref a) (· ++ c) >>= fun _ => ret .none)) else (Builtin.Bytes.write (.ref a) (· ++ c) >>= fun _ => ret .none)) _ _
  by_cases hc : (!c.isEmpty) = true
  · rw [if_pos hc]
    exact wpAny_bind (resize_ok ha fin)
  · rw [if_neg hc]
    exact fin
end
end Tk

namespace Tk
open PySem PySem.W PyProof.Rows PySem.Calls
theorem mro_bar : mroOf (.type "bytearray") = pure [.type "bytearray", .type "object"] := by rw [mroOf_type]; kernel_rfl
theorem lookup_bar_new : typeLookup (.type "bytearray") "__new__" = pure (some (.builtin "bytearray.__new__")) := by rw [typeLookup_type, builtinLookup_eq_fast]; kernel_rfl
theorem slot_bar_init : Slot "bytearray" "__init__" "bytearray.__init__" :=
  .of (owner := "bytearray") (n := "__init__") (by rw [typeLookup_type, builtinLookup_eq_fast]; kernel_rfl) (by decide +kernel) (by decide +kernel) (by decide +kernel)
    (by first | exact .inl (by decide +kernel) | exact .inr (by decide +kernel)) (by rw [isSubtype_type]; kernel_rfl)
theorem sub_bar_self : isSubtype (.type "bytearray") (.type "bytearray") = pure true := by rw [isSubtype_type]; kernel_rfl
theorem called_bar : TypeCalled "bytearray" "bytearray.__new__" "bytearray.__init__" :=
  ⟨by decide +kernel, by decide +kernel, ⟨_, _, mro_bar⟩, madeBy_type mro_bar lookup_bar_new (by decide +kernel), by decide +kernel, sub_bar_self, slot_bar_init⟩
theorem typeCall_bar : checkTypeCall "bytearray" ⟨[], []⟩ = pure () := by kernel_rfl
theorem newCall_bar : checkBuiltinCall "bytearray.__new__" ⟨[.type "bytearray"], []⟩ = pure () := by kernel_rfl
theorem entry_bar_new : entryFor table "bytearray.__new__" = some Builtin.«list.__new__» :=
  entryFor_alias (id' := "list.__new__") (by rw [fastTable_eq_tree]; kernel_rfl) (by decide +kernel) (by decide +kernel) (by rw [fastTable_eq_tree]; kernel_rfl)
theorem entry_bar_init : entryFor table "bytearray.__init__" = some Builtin.«bytearray.__init__» := entryFor_of_tree (by kernel_rfl)
theorem plain_bar_new : plainId "bytearray.__new__" = true := by decide +kernel
theorem args_bar_init (a : Value) : argsOk "bytearray.__init__" ⟨[a], []⟩ := by unfold argsOk; kernel_rfl
set_option maxRecDepth 1000000 in
set_option maxHeartbeats 4000000 in
theorem owner_bar_new : ("bytearray.__new__".splitOn ".__new__").headD "" = "bytearray" := by simp +decide [String.splitOn, String.splitOnAux]
section
variable {cl : Bool} {B : Bs} {A : Around} {s : Shared}
theorem code_bar_new {Q₁ : Value → Shared → Prop}
    (h : Q₁ (.ref s.heap.objs.size) { s with heap := s.heap.push (barrObj #[]) }) :
    codeAny (model pw B.w) A (.call (.builtin "bytearray.__new__") ⟨[.type "bytearray"], []⟩) (wants Q₁ (fun _ _ => False)) s := by
  refine PySem.codeAny_of_tree ?_
  show PySem.wpAny _ A.in1 (do checkBuiltinCall "bytearray.__new__" ⟨[.type "bytearray"], []⟩; again (.builtin "bytearray.__new__" ⟨[.type "bytearray"], []⟩)) _ _ s
  refine PySem.wpAny_bind (PySem.wpAny_of_eq newCall_bar (PySem.wpAny_pure ⟨plainId_quiet plain_bar_new _, PySem.codeAny_builtin_stack entry_bar_new rfl fun p st => ?_⟩))
  rw [Around.under_plainId plain_bar_new _]
  have hsub := sub_bar_self
  have hown := owner_bar_new
  obtain ⟨hp, g, d, tk, os⟩ := s
  simp only [hown]
  wp_walk
  exact h
theorem bar_init {a : Addr} {Q : Shared → Prop} (ha : s.heap.get? a = some (barrObj #[])) (h : Q { s with heap := s.heap.update a (Obj.mapBytearray fun _ => #[]) }) :
    Wp true B A (Builtin.«bytearray.__init__» ⟨[.ref a], []⟩) (fun fin s' => fin = .done (.ret .none) ∧ Q s') s := by
  have hT : s.TypeIs (.ref a) "bytearray" := ⟨_, ha, rfl⟩
  unfold Builtin.«bytearray.__init__»
  dsimp only
  refine wpAny_bind (leaf (own_rel hT ?_))
  rw [if_neg Bool.false_ne_true]
  refine wpAny_bind (wpAny_of_eq (a := [none, none, none]) (by kernel_rfl) ?_)
  dsimp only
  refine wpAny_bind (wpAny_of_eq (a := ()) rfl ?_)
  refine wpAny_bind (wpAny_of_eq (a := ()) rfl ?_)
  refine wpAny_bind (wpAny_bind (exported_false ?_))
  show Wp true B A (do return decide ((← Builtin.Bytes.exportsOf (.ref a)) > 0)) _ s
  unfold Builtin.Bytes.exportsOf
  refine wpAny_bind (wpAny_bind (leaf (wpAny_load ha ?_)))
  refine wpAny_pure (wpAny_pure ?_)
  rw [if_neg (by decide)]
  refine wpAny_bind (write_ok ha (by decide) ?_)
  exact wpAny_pure ⟨rfl, h⟩
theorem bar_new {Q : Value → Shared → Prop}
    (h : Q (.ref s.heap.objs.size) { s with heap := (s.heap.push (barrObj #[])).update s.heap.objs.size (Obj.mapBytearray fun _ => #[]) }) :
    Wp true B A (call (.type "bytearray") []) Q s := by
  obtain ⟨c, tl, hmro⟩ := called_bar.mro
  refine wpAny_call (codeAny_of_tree rfl ?_)
  show Wp true B _ (callAny (.type "bytearray") _) _ _
  refine wpAny_pure ⟨Code.quiet_builtin _ (by decide +kernel), cd_builtin (by show holders.contains "type.__call__" = false; decide +kernel) PySem.F.entry_type_call ?_⟩
  rw [Around.under_plain (weight_type_call_type "bytearray" [] []) rfl]
  unfold Builtin.«type.__call__»
  dsimp only
  rw [if_neg (show ¬ ((Value.type "bytearray" == Value.type "type") = true) by decide)]
  rw [called_bar.canCreate, if_neg Bool.false_ne_true]
  refine wpAny_bind (wpAny_of_eq typeCall_bar ?_)
  rw [hmro]
  refine wpAny_bind (wpAny_pure ?_)
  rw [if_neg (show ¬ ((c :: tl).isEmpty = true) from Bool.false_ne_true)]
  rw [called_bar.made]
  refine wpAny_bind (wpAny_pure ?_)
  refine wpAny_bind (wpAny_pure ?_)
  refine wpAny_bind (wpAny_holding (wpAny_call (cdLeaf (PySem.codeAny_mono (code_bar_new (Q₁ := fun v s' => v = .ref s.heap.objs.size ∧ s' = { s with heap := s.heap.push (barrObj #[]) }) ⟨rfl, rfl⟩) fun r s' hr => ?_))))
  rcases r with e | (_ | _ | _ | obj)
  · exact hr.elim
  · exact hr.elim
  · exact hr.elim
  · exact hr.elim
  obtain ⟨rfl, rfl⟩ := hr
  have hS : (s.heap.push (barrObj #[])).get? s.heap.objs.size = some (barrObj #[]) := Heap.get?_push_size _ rfl
  have hT : ({ s with heap := s.heap.push (barrObj #[]) } : Shared).TypeIs (.ref s.heap.objs.size) "bytearray" := ⟨_, hS, rfl⟩
  refine wpAny_bind (leaf (wpAny_isInstance hT sub_bar_self ?_))
  rw [if_neg (by decide)]
  refine wpAny_bind (wpAny_holding ?_)
  unfold callSpecial?
  refine wpAny_bind (leaf (wpAny_specialOf hT called_bar.init.lookup ?_))
  dsimp only
  refine wpAny_holding (wpAny_bind (wpAny_of_eq (called_bar.init.bind _) ?_))
  dsimp only
  refine wpAny_bind (wpAny_call (cd_call_builtin (Code.quiet_builtin _ (by decide +kernel)) (by show holders.contains "bytearray.__init__" = false; decide +kernel) entry_bar_init ?_))
  have hc : WpA B A.in1.in1 (checkBuiltinCall "bytearray.__init__" ⟨[.ref s.heap.objs.size], []⟩) (fun _ s' => s' = ({ s with heap := s.heap.push (barrObj #[]) } : Shared)) ({ s with heap := s.heap.push (barrObj #[]) } : Shared) := called_bar.init.check _ _ _ _ _ _ _ _ hT (args_bar_init _) rfl
  refine (leaf hc).mono fun _ s' q => ?_
  subst q
  refine (bar_init (Q := fun s' => s' = { s with heap := (s.heap.push (barrObj #[])).update s.heap.objs.size (Obj.mapBytearray fun _ => #[]) }) hS rfl).mono fun fin s' z => ?_
  obtain ⟨rfl, rfl⟩ := z
  exact wpAny_pure (wpAny_pure h)
end
end Tk

namespace Tk
open PySem PySem.W PyProof.Rows PySem.Calls
section
variable {cl : Bool} {B : Bs} {O : Orc} {nm : List Str} {A : Around} {env : Env} {η η' : En} {σ σ' σ₁ : St} {ρ ρ' : List Addr} {s s' : Shared} {v : AV} {V : Value}
theorem octets_of {l : List Int} (h : isOctets l = true) : ∀ n ∈ l, 0 ≤ n ∧ n < 256 := fun n hn => by
  have := List.all_eq_true.mp h n hn
  simpa using this
theorem bytesInts_byteArr {l : List Int} (h : ∀ n ∈ l, 0 ≤ n ∧ n < 256) : bytesInts (byteArr l) = l := by
  unfold bytesInts byteArr
  rw [List.map_map]
  conv => rhs; rw [← List.map_id l]
  refine List.map_congr_left fun i hi => ?_
  have := h i hi
  show ((i.toNat.toUInt8.toNat : Nat) : Int) = i
  simp
  (first | lia | omega)
theorem Rel.barr_at {n : Nat} {a : Addr} {xs : List Int} (R : Rel B ρ σ s) (ha : ρ[n]? = some a) (h : σ[n]? = some (.barr xs)) : ∃ b, s.heap.get? a = some (barrObj b) ∧ bytesInts b = xs := R.obj n a _ ha h
theorem bytesInts_size {b : Array UInt8} {l : List Int} (h : bytesInts b = l) : b.size = l.length := by rw [← h]; simp [bytesInts]
theorem ok_bytes {a : E} (K : B.Ok) (hr : Room A 0) (ha : EvOK cl B O nm A a) : EvOK cl B O nm A (.b1 .bytes a) := fun ast env η σ v σ' ρ s hc e R F => by
  refine chz_b1_bytes hc fun x q y p h => ?_
  simp only [Bool.and_eq_true] at h
  refine bindE e fun w σ1 e1 e => ?_
  obtain rfl := beq_iff_eq.mp h.1.2
  refine blt1 K ha h.1.1 rfl (.inr ⟨_, rfl⟩) h.2 e1 R F fun X s1 ρ1 R1 m1 => ?_
  cases w <;> first | (exact nn e) | skip
  · first | exact nn e | cases e
    obtain ⟨b, t, rfl, q⟩ := m1
    exact leaf (bytes_bytes (PV.now R1 (v := .bytes _) ⟨b, t, rfl, q⟩))
  · rename_i n
    obtain ⟨a', ha', rfl⟩ := m1
    delta b1v at e; dsimp only at e
    split at e
    · rename_i xs h1
      split at e
      · rename_i hg
        cases e
        obtain ⟨vs, ep, ia, ja⟩ := R1.list_at ha' h1
        refine leaf (call_bytes_ints ia.isList ja (octets_of hg.1) (by rw [ja.length]; exact lineOf_size hg.2) hr.handled fun h' t k hk => ?_)
        exact PV.grew R1 hk rfl rfl (v := .bytes _) ⟨_, t, rfl, bytesInts_byteArr (octets_of hg.1)⟩
      · first | exact nn e | cases e
    · rename_i xs h1
      split at e
      · rename_i hg
        cases e
        obtain ⟨b, e2, e3⟩ := R1.barr_at ha' h1
        exact leaf (bytes_barr e2 (by rw [bytesInts_size e3]; exact lineOf_size hg) (PV.now R1 (v := .bytes _) ⟨b, _, rfl, e3⟩).tok)
      · first | exact nn e | cases e
    · first | exact nn e | cases e
theorem ok_barr0 (K : B.Ok) : EvOK true B O nm A .barr0 := fun ast env η σ v σ' ρ s hc e R F => by
  refine chz_barr0 hc fun x q p h => ?_
  simp only [Bool.and_eq_true] at h
  obtain rfl := beq_iff_eq.mp h.2
  cases e
  refine Call_Name rfl (leaf (ev_blt K h.1 R F rfl (blt_tail (O := O) es_nil rfl (.inr ⟨_, rfl⟩) rfl R F fun Vs s1 ρ1 G1 R1 m1 => ?_)))
  cases m1
  refine bar_new (PV.after G1 ?_)
  have hp : (s1.heap.push (barrObj #[])).get? s1.heap.objs.size = some (barrObj #[]) := Heap.get?_push_size _ rfl
  have hk : ∀ b o, s1.heap.get? b = some o → ((s1.heap.push (barrObj #[])).update s1.heap.objs.size (Obj.mapBytearray fun _ => #[])).get? b = some o := fun b o e =>
    (Heap.get?_update_other _ _ (Ne.symm (Nat.ne_of_lt (Heap.lt_size e)))).trans (Heap.get?_push_of_some _ e)
  refine ⟨ρ1 ++ [s1.heap.objs.size], ⟨List.prefix_append _ _, fun a ha => ?_, fun b ob e _ _ => hk b ob e, fun b ob e => ⟨ob, hk b ob e⟩⟩, R1.push (get_size _) hk ⟨#[], ?_, rfl⟩ rfl rfl, s1.heap.objs.size, ?_, rfl⟩
  · rcases List.mem_append.mp ha with ha | ha
    · exact .inl ha
    · rw [List.mem_singleton] at ha; subst ha; exact .inr (get_size _)
  · exact Heap.get?_update_self _ hp rfl
  · rw [← R1.len, List.getElem?_append_right (Nat.le_refl _), Nat.sub_self]; rfl
end
end Tk

namespace Tk
open PySem PySem.W PyProof.Rows PySem.Calls
section
variable {cl : Bool} {B : Bs} {O : Orc} {nm : List Str} {A : Around} {env : Env} {η η' : En} {σ σ' σ₁ : St} {ρ ρ' : List Addr} {s s' : Shared} {v : AV} {V : Value}
/-- a method of a list or a bytearray called with one argument -/
theorem meth1 {ob v : E} {x y : Expr} {name : Str} {apos pos : Pos} {id : String} {w u : AV} {σ1 σ2 : St} {Q : Value → Shared → Prop} (ho : EvOK cl B O nm A ob) (hv : EvOK cl B O nm A v)
    (h1 : chk nm env.scope ob x = true) (h2 : plainBase x = true) (h3 : chk nm env.scope v y = true) (h4 : (apos.endLine == pos.line) = true) (e1 : ev O B.ns prices ob η σ = some (w, σ1)) (e2 : ev O B.ns prices v η σ1 = some (u, σ2))
    (R : Rel B ρ σ s) (F : Frm B env nm η ρ s.heap)
    (hm : ∀ X s1 ρ1 (pl : Sem Bool) (P : Value × List Value → Shared → Prop), Rel B ρ1 σ1 s1 → VM B ρ1 w X → P (.builtin id, [X]) s1 → WpA B A (getMethod X name pl) P s1)
    (hq : ∀ X Y s2 ρ2, Goes Non ρ s.heap ρ2 s2.heap → Rel B ρ2 σ2 s2 → VM B ρ2 w X → VM B ρ2 u Y → Wp cl B A (call (.builtin id) [X, Y]) Q s2) :
    Wp cl B A (eval (.Call (.Attribute x name apos) [y] [] pos) env) Q s := by
  rw [arm_eval_Call, base_plain h2]
  refine wpAny_bind (Wp.pv (ho _ _ _ _ _ _ _ _ h1 e1 R F) fun X s1 ρ1 G1 R1 m1 => wpAny_bind (wpAny_standAt ?_))
  have hpos : methodCallPos true x env apos pos = pure pos := by unfold methodCallPos; simp [h4]
  have hc := chks_one h3
  have hform : methodCallForm ([y].length + ([] : List Keyword).length) (backTo pos (starEach [y] env)) (backToKw pos (keywordEach [] env)) = true := by
    unfold methodCallForm
    rw [(plain_args hc env pos).2]
    rfl
  unfold methodCall
  rw [hform]
  refine wpAny_bind (wpAny_holding (leaf (hm X s1 ρ1 _ _ R1 m1 ?_)))
  refine wpAny_bind (wpAny_of_eq hpos ?_)
  refine callWith_of (P := fun _ => True) (by rw [(plain_args hc env pos).1]; rfl) (fun h _ => ⟨.machine, .inr (.inl rfl), Looks.of_pure rfl⟩) (args_ok hc ?_)
  refine Wp.pvs (es_cons hv es_nil _ _ _ _ _ _ _ _ _ hc (evs_one e2) R1 (F.go G1)) fun Vs s2 ρ2 G2 R2 m2 => ⟨trivial, ?_⟩
  cases m2 with
  | cons m mr => cases mr; exact hq _ _ s2 ρ2 (G1.trans G2) R2 (m1.pre G2.pre) m
theorem kind_list {n : Nat} {xs : List Int} {σ1 σ2 : St} (h : kindL σ1 (.lab n) = kindL σ2 (.lab n)) (e : σ2[n]? = some (.list xs)) : ∃ ys, σ1[n]? = some (.list ys) := by
  have : kindL σ2 (.lab n) = 1 := by unfold kindL; simp only [e]
  rw [this] at h
  unfold kindL at h
  dsimp only at h
  split at h
  · exact ⟨_, ‹_›⟩
  · cases h
  · cases h
theorem kind_barr {n : Nat} {xs : List Int} {σ1 σ2 : St} (h : kindL σ1 (.lab n) = kindL σ2 (.lab n)) (e : σ2[n]? = some (.barr xs)) : ∃ ys, σ1[n]? = some (.barr ys) := by
  have : kindL σ2 (.lab n) = 2 := by unfold kindL; simp only [e]
  rw [this] at h
  unfold kindL at h
  dsimp only at h
  split at h
  · cases h
  · exact ⟨_, ‹_›⟩
  · cases h
theorem bytesInts_push {b : Array UInt8} {l : List Int} {i : Int} (h : bytesInts b = l) (h0 : 0 ≤ i) (h1 : i < 256) : bytesInts (b.push i.toNat.toUInt8) = l ++ [i] := by
  subst h
  unfold bytesInts
  rw [Array.toList_push, List.map_append]
  congr 1
  simp
  (first | lia | omega)
theorem ints_snoc {vs : List Value} {l : List Int} {i : Int} {t : Tok} (h : IntsAre vs l) : IntsAre (vs ++ [.int i t]) (l ++ [i]) := by
  induction h with
  | nil => exact .cons i t .nil
  | cons n t' hr ih => exact .cons n t' ih
theorem swap_call {f : Expr} {as : List Expr} {ks} {p : Pos} {n : Nat} : swapsWith (.Call f as ks p) none n env = pure false := rfl
theorem sx_append {ob v : E} (K : B.Ok) (hr : Room A 0) (ho : EvOK true B O nm A ob) (hv : EvOK true B O nm A v) : SxOK true B O nm A (.append ob v) := fun ast env η σ fl η' σ' ρ s hc e R F => by
  refine chzS_append hc fun x name apos y pos p2 h => ?_
  obtain ⟨⟨⟨⟨h1, h2⟩, h3⟩, h4⟩, h5⟩ := A5 h
  obtain rfl := beq_iff_eq.mp h3
  refine bindE e fun w σ1 e1 e => ?_
  refine bindE e fun u σ2 e2 e => ?_
  dsimp only at e
  split at e
  case isFalse => cases e
  rename_i hk
  refine mapE1 e fun τ e3 e4 => ?_
  cases e4
  unfold appendv at e3
  split at e3
  case h_2 => cases e3
  rename_i n i _
  have hi : interactive env = false := by unfold interactive; rw [F.kind]; rfl
  split at e3
  · rename_i xs q1
    split at e3
    case isFalse => cases e3
    rename_i hz
    cases e3
    obtain ⟨ys, q0⟩ := kind_list hk q1
    refine wpAny_Expr (meth1 (id := "list.append") ho hv h1 h2 h4 h5 e1 e2 R F (fun X s1 ρ1 pl P R1 m1 hP => ?_) (fun X Y s2 ρ2 G R2 m m' => ?_)) hi swap_call
    · obtain ⟨a, ha, rfl⟩ := m1
      obtain ⟨vs, ep, ia, ja⟩ := R1.list_at ha q0
      exact getMethod_list_append ia rfl rfl hP
    · obtain ⟨a, ha, rfl⟩ := m
      obtain ⟨t, rfl⟩ := m'
      obtain ⟨vs, ep, ia, ja⟩ := R2.list_at ha q1
      refine leaf (append_exact ia (by rw [List.size_toArray, ja.length]; exact lineOf_size hz) ?_)
      have new : OM B ρ2 (s2.heap.update a (Obj.mapSeq fun xs => xs.push (.int i t))) a (.list (xs ++ [i])) :=
        ⟨vs ++ [.int i t], _, (Heap.get?_update_self _ ia rfl).trans (by simp only [Obj.mapSeq, List.push_toArray]; rfl), ints_snoc ja⟩
      have so : ∀ b, b ≠ a → (s2.heap.update a (Obj.mapSeq fun xs => xs.push (.int i t))).get? b = s2.heap.get? b := update_other _
      have G2 : Goes Non ρ2 s2.heap ρ2 (s2.heap.update a (Obj.mapSeq fun xs => xs.push (.int i t))) := goes_put ha new.alive so
      exact ⟨ρ2, (G.trans G2).any, R2.put (tk := s2.toks) ha new so, (F.go G).go G2, rfl⟩
  · rename_i xs q1
    split at e3
    case isFalse => cases e3
    rename_i hz
    cases e3
    obtain ⟨ys, q0⟩ := kind_barr hk q1
    refine wpAny_Expr (meth1 (id := "bytearray.append") ho hv h1 h2 h4 h5 e1 e2 R F (fun X s1 ρ1 pl P R1 m1 hP => ?_) (fun X Y s2 ρ2 G R2 m m' => ?_)) hi swap_call
    · obtain ⟨a, ha, rfl⟩ := m1
      obtain ⟨b, ia, ja⟩ := R1.barr_at ha q0
      exact getMethod_builtin ⟨_, ia, rfl⟩ plainAttrs_bar slot_bap type_bap (fun a' e => by cases e; exact ⟨_, ia, rfl⟩) hP
    · obtain ⟨a, ha, rfl⟩ := m
      obtain ⟨t, rfl⟩ := m'
      obtain ⟨b, ia, ja⟩ := R2.barr_at ha q1
      refine append_call ia hz.2.1 hz.2.2 (by rw [bytesInts_size ja]; have := hz.1; unfold lineOf at this; unfold sizeLine; (first | lia | omega)) ?_
      have new : OM B ρ2 (s2.heap.update a (Obj.mapBytearray (·.push i.toNat.toUInt8))) a (.barr (xs ++ [i])) :=
        ⟨_, Heap.get?_update_self _ ia rfl, bytesInts_push ja hz.2.1 hz.2.2⟩
      have so : ∀ b, b ≠ a → (s2.heap.update a (Obj.mapBytearray (·.push i.toNat.toUInt8))).get? b = s2.heap.get? b := update_other _
      have G2 : Goes Non ρ2 s2.heap ρ2 (s2.heap.update a (Obj.mapBytearray (·.push i.toNat.toUInt8))) := goes_put ha new.alive so
      exact ⟨ρ2, (G.trans G2).any, R2.put (tk := s2.toks) ha new so, (F.go G).go G2, rfl⟩
  · first | exact nn e3 | cases e3
theorem sx_extend {ob v : E} (K : B.Ok) (hr : Room A 0) (ho : EvOK true B O nm A ob) (hv : EvOK true B O nm A v) : SxOK true B O nm A (.extend ob v) := fun ast env η σ fl η' σ' ρ s hc e R F => by
  refine chzS_extend hc fun x name apos y pos p2 h => ?_
  refine Classical.byContradiction fun hG0 => ?_
  obtain ⟨⟨⟨⟨h1, h2⟩, h3⟩, h4⟩, h5⟩ := A5 h
  obtain rfl := beq_iff_eq.mp h3
  refine hG0 ?_
  refine bindE e fun w σ1 e1 e => ?_
  refine bindE e fun u σ2 e2 e => ?_
  dsimp only at e
  split at e
  case isFalse => cases e
  rename_i hk
  refine mapE1 e fun τ e3 e4 => ?_
  cases e4
  unfold extendv at e3
  split at e3
  case h_2 => cases e3
  rename_i n l _
  have hi : interactive env = false := by unfold interactive; rw [F.kind]; rfl
  split at e3
  case h_2 => cases e3
  rename_i xs q1
  split at e3
  case isFalse => cases e3
  rename_i hz
  cases e3
  obtain ⟨ys, q0⟩ := kind_barr hk q1
  refine wpAny_Expr (meth1 (id := "bytearray.extend") ho hv h1 h2 h4 h5 e1 e2 R F (fun X s1 ρ1 pl P R1 m1 hP => ?_) (fun X Y s2 ρ2 G R2 m m' => ?_)) hi swap_call
  · refine Classical.byContradiction fun hG1 => ?_
    obtain ⟨a, ha, rfl⟩ := m1
    obtain ⟨b, ia, ja⟩ := R1.barr_at ha q0
    refine hG1 ?_
    exact getMethod_builtin ⟨_, ia, rfl⟩ plainAttrs_bar slot_bex type_bex (fun a' e => by cases e; exact ⟨_, ia, rfl⟩) hP
  · refine Classical.byContradiction fun hG2 => ?_
    obtain ⟨a, ha, rfl⟩ := m
    obtain ⟨c, t, rfl, hl⟩ := m'
    obtain ⟨b, ia, ja⟩ := R2.barr_at ha q1
    refine hG2 ?_
    refine extend_call ia (by rw [bytesInts_size ja, bytesInts_size hl]; have := hz.1; have := hz.2; unfold lineOf at *; unfold sizeLine; (first | lia | omega)) ?_
    have new : OM B ρ2 (s2.heap.update a (Obj.mapBytearray (· ++ c))) a (.barr (xs ++ l)) :=
      ⟨b ++ c, Heap.get?_update_self _ ia rfl, by rw [← ja, ← hl]; unfold bytesInts; simp⟩
    have so : ∀ b, b ≠ a → (s2.heap.update a (Obj.mapBytearray (· ++ c))).get? b = s2.heap.get? b := update_other _
    have G2 : Goes Non ρ2 s2.heap ρ2 (s2.heap.update a (Obj.mapBytearray (· ++ c))) := goes_put ha new.alive so
    exact ⟨ρ2, (G.trans G2).any, R2.put (tk := s2.toks) ha new so, (F.go G).go G2, rfl⟩
end
end Tk

namespace Tk
open PySem PySem.W PyProof.Rows PySem.Calls
noncomputable def isVal : Expr → Bool
  | .UnaryOp .Not _ _ => false
  | .BoolOp .. => false
  | .IfExp .. => false
  | .Compare .. => false
  | _ => true
theorem isTrue_val {ast : Expr} (h : isVal ast = true) (env : Env) (whole : Sem Value) : isTrue ast env whole = (do let v ← whole; standAt ast.pos; holding [v] (truthy v)) := by
  cases ast <;> first | rfl | (exact absurd h Bool.false_ne_true) | (rename_i op _ _; cases op <;> first | rfl | (exact absurd h Bool.false_ne_true))
noncomputable def coreVal : E → Bool
  | .not _ => false
  | .chain _ _ => false
  | .isNone _ => false
  | .isin _ _ _ => false
  | .inl _ _ => false
  | .and _ => false
  | .or _ => false
  | .ite _ _ _ => false
  | _ => true
theorem isVal_of {nm : List Str} {sc : Scope} {e : E} {ast : Expr} (hc : chk nm sc e ast = true) (hv : coreVal e = true) : isVal ast = true := by
  cases e with
  | b1 f a =>
    cases f with
    | len => exact chz_b1_len hc fun _ _ _ _ _ => rfl
    | abs => exact chz_b1_abs hc fun _ _ _ _ _ => rfl
    | sorted => exact chz_b1_sorted hc fun _ _ _ _ _ => rfl
    | sum => exact chz_b1_sum hc fun _ _ _ _ _ => rfl
    | int => exact chz_b1_int hc fun _ _ _ _ _ => rfl
    | bytes => exact chz_b1_bytes hc fun _ _ _ _ _ => rfl
    | max => exact chz_b1_max hc fun _ _ _ _ _ => rfl
    | bitlen => exact chz_bitlen hc (by intros; rfl)
    | isint => exact chz_isint hc (by intros; rfl)
  | sub a b => obtain ⟨_, _, _, rfl, _⟩ := chk_sub hc; rfl
  | comp a b c d => exact chz_comp hc (by intros; rfl)
  | not a => exact absurd hv Bool.false_ne_true
  | chain a c => exact absurd hv Bool.false_ne_true
  | isNone a => exact absurd hv Bool.false_ne_true
  | isin n a b => exact absurd hv Bool.false_ne_true
  | inl a b => exact absurd hv Bool.false_ne_true
  | and es => exact absurd hv Bool.false_ne_true
  | or es => exact absurd hv Bool.false_ne_true
  | ite c a b => exact absurd hv Bool.false_ne_true
  | int i => exact chz_int hc (by intros; rfl)
  | bool b => exact chz_bool hc (by intros; rfl)
  | none  => exact chz_none hc (by intros; rfl)
  | var i => exact chz_var hc (by intros; rfl)
  | glob k => exact chz_glob hc (by intros; rfl)
  | bin o a b => exact chz_bin hc (by intros; rfl)
  | neg a => exact chz_neg hc (by intros; rfl)
  | call f as => exact chz_call hc (by intros; rfl)
  | meth o m as => exact chz_meth hc (by intros; rfl)
  | attr o a => exact chz_attr hc (by intros; rfl)
  | prices  => exact chz_prices hc (by intros; rfl)
  | upto a b => exact chz_upto hc (by intros; rfl)
  | «from» a b => exact chz_from hc (by intros; rfl)
  | list es => exact chz_list hc (by intros; rfl)
  | max2 a b => exact chz_max2 hc (by intros; rfl)
  | barr0  => exact chz_barr0 hc (by intros; rfl)
  | rev a => obtain ⟨_, _, _, _, _, _, _, rfl, _⟩ := chk_rev hc; rfl
  | every a k => obtain ⟨_, _, _, _, _, _, rfl, _⟩ := chk_every hc; rfl
section
variable {B : Bs} {O : Orc} {nm : List Str} {A : Around}
theorem valB {e : E} (ha : EvOK true B O nm A e) (hv : coreVal e = true) : EvOK true B O nm A e ∧ TsOK true B O nm A e :=
  ⟨ha, ts_value ha fun ast sc hc env whole => isTrue_val (isVal_of hc hv) env whole⟩
theorem ts_ite {c a b : E} (hc' : TsOK true B O nm A c) (ha : TsOK true B O nm A a) (hb : TsOK true B O nm A b) : TsOK true B O nm A (.ite c a b) := fun ast env η σ v σ' ρ s hc e R F => by
  refine chz_ite hc fun t x y p h => ?_
  simp only [Bool.and_eq_true] at h
  refine bindE e fun x' σ1 e1 e => ?_
  rw [arm_isTrue_IfExp]
  dsimp only at e
  split at e
  · refine wpAny_bind (Wp.mono (hc' _ _ _ _ _ _ _ _ h.1.1 e1 R F) fun b s1 ⟨q, ρ1, G1, R1⟩ => ?_)
    subst q
    exact Wp.mono (ha _ _ _ _ _ _ _ _ h.1.2 e R1 (F.go G1)) fun V s2 h2 => h2.after G1
  · refine wpAny_bind (Wp.mono (hc' _ _ _ _ _ _ _ _ h.1.1 e1 R F) fun b s1 ⟨q, ρ1, G1, R1⟩ => ?_)
    subst q
    exact Wp.mono (hb _ _ _ _ _ _ _ _ h.2 e R1 (F.go G1)) fun V s2 h2 => h2.after G1
  · first | exact nn e | cases e
variable (K : B.Ok) (hr : Room A 0) (hO : OrcOK true B O A)
include K hr hO
mutual
theorem okE : ∀ e : E, EvOK true B O nm A e ∧ TsOK true B O nm A e
  | .int i => valB ok_int rfl
  | .bool b => valB ok_bool rfl
  | .none => valB ok_none rfl
  | .var i => valB ok_var rfl
  | .glob k => valB (ok_glob K) rfl
  | .bin o a b => valB (ok_bin K hr (okE a).1 (okE b).1) rfl
  | .neg a => valB (ok_neg (okE a).1) rfl
  | .not a => ⟨ok_not (okE a).1, ts_not (okE a).2⟩
  | .chain a c => ⟨ok_chain (okE a).1 (okCs c), ts_chain (okE a).1 (okCs c)⟩
  | .isNone a => ⟨ok_isNone (okE a).1, ts_isNone (okE a).1⟩
  | .isin n a b => ⟨ok_isin (okE a).1 (okEs b).1, ts_isin (okE a).1 (okEs b).1⟩
  | .inl a b => ⟨ok_inl (okE a).1 (okE b).1, ts_inl (okE a).1 (okE b).1⟩
  | .and es => ⟨ok_and ((okEs es).2.1 true), ts_and ((okEs es).2.2 true)⟩
  | .or es => ⟨ok_or ((okEs es).2.1 false), ts_or ((okEs es).2.2 false)⟩
  | .ite c a b => ⟨ok_ite (okE c).2 (okE a).1 (okE b).1, ts_ite (okE c).2 (okE a).2 (okE b).2⟩
  | .call f es => valB (ok_call K hO (okEs es).1) rfl
  | .meth o m es => valB (ok_meth K hO (okE o).1 (okEs es).1) rfl
  | .attr o a => valB (ok_attr K (okE o).1) rfl
  | .prices => valB (ok_prices K) rfl
  | .sub a b => valB (ok_sub K (okE a).1 (okE b).1) rfl
  | .upto a b => valB (ok_upto K (okE a).1 (okE b).1) rfl
  | .from a b => valB (ok_from K (okE a).1 (okE b).1) rfl
  | .rev a => valB (ok_rev K (okE a).1) rfl
  | .every a k => valB (ok_every K (okE a).1) rfl
  | .list es => valB (ok_list (okEs es).1) rfl
  | .comp elt j cap it => valB (ok_comp hr (okIt it) (okE elt).1) rfl
  | .b1 .len a => valB (ok_len K (okE a).1) rfl
  | .b1 .abs a => valB (ok_abs K (okE a).1) rfl
  | .b1 .sorted a => valB (ok_sorted K (okE a).1) rfl
  | .b1 .sum a => valB (ok_sum K hr (okE a).1) rfl
  | .b1 .int a => valB (ok_intb K (okE a).1) rfl
  | .b1 .bytes a => valB (ok_bytes K hr (okE a).1) rfl
  | .b1 .max a => valB (ok_max K hr (okE a).1) rfl
  | .b1 .bitlen a => valB (ok_bitlen K (okE a).1) rfl
  | .b1 .isint a => valB (ok_isint K (okE a).1) rfl
  | .max2 a b => valB (ok_max2 K hr (okE a).1 (okE b).1) rfl
  | .barr0 => valB (ok_barr0 K) rfl
theorem okEs : ∀ es : Es, EsOK true B O nm A es ∧ (∀ k, BsOK true B O nm A k es) ∧ ∀ k, BtOK true B O nm A k es
  | .nil => ⟨es_nil, fun _ => bs_nil, fun _ => bt_nil⟩
  | .cons e r => ⟨es_cons (okE e).1 (okEs r).1, fun k => bs_cons (okE e).1 ((okEs r).2.1 k), fun k => bt_cons (okE e).2 ((okEs r).2.2 k)⟩
theorem okCs : ∀ c : Cs, CsOK true B O nm A c
  | .one o e => cs_one hr (okE e).1
  | .more o e r => cs_more hr (okE e).1 (okCs r)
theorem okIt : ∀ it : It, ItOK true B O nm A it
  | .range e => it_range K hr (okE e).1
  | .range3 a b c => it_range3 K hr (okE a).1 (okE b).1 (okE c).1
  | .elems e => it_elems hr (okE e).1
end
mutual
theorem okS : ∀ s : S, SxOK true B O nm A s
  | .asg i e => sx_asg (okE K hr hO e).1
  | .asgComp i e => sx_asgComp hr fun elt j cap it h => ⟨okIt K hr hO it, (okE K hr hO elt).1⟩
  | .asgs is es => sx_asgs hr (okEs K hr hO es).1
  | .asgIf is c a b => sx_asgIf hr (okE K hr hO c).2 (okEs K hr hO a).1 (okEs K hr hO b).1
  | .setItem o i v => sx_setItem (okE K hr hO o).1 (okE K hr hO i).1 (okE K hr hO v).1
  | .setAttr o a v => sx_setAttr K (okE K hr hO o).1 (okE K hr hO v).1
  | .aug i o e => sx_aug (okE K hr hO e).1
  | .augAttr ob a o e => sx_augAttr K (okE K hr hO ob).1 (okE K hr hO e).1
  | .iff c a b => sx_iff (okE K hr hO c).2 (okSs a) (okSs b)
  | .for_ i it body => sx_for (okIt K hr hO it) (okSs body)
  | .forEnum i j e body => sx_forEnum K hr (okE K hr hO e).1 (okSs body)
  | .ret e => sx_ret (okE K hr hO e).1
  | .append ob v => sx_append K hr (okE K hr hO ob).1 (okE K hr hO v).1
  | .extend ob v => sx_extend K hr (okE K hr hO ob).1 (okE K hr hO v).1
  | .exp e => sx_exp (okE K hr hO e).1
  | .raise => sx_raise
theorem okSs : ∀ s : Ss, SsOK true B O nm A s
  | .nil => ss_nil
  | .cons s r => ss_cons (okS s) (okSs r)
end
end
end Tk

namespace Tk
open PySem PySem.W PyProof.Rows PySem.Calls

/-! names and cells -/
theorem cellsFrom_look : ∀ (names : List (Str × NameKind)) (n : Nat) (acc : List (Str × Addr)) (x : Str), (names.lookup x = some .cell ∨ (acc.lookup x).isSome = true) → ((cellsFrom n names acc).lookup x).isSome = true
  | [], n, acc, x, h => h.elim (fun h => by cases h) id
  | (name, kind) :: r, n, acc, x, h => by
    unfold cellsFrom
    by_cases hk : (kind == NameKind.cell) = true
    · rw [if_pos hk]
      refine cellsFrom_look r _ _ x ?_
      rw [List.lookup_cons]
      cases hx : x == name with
      | true => exact .inr rfl
      | false =>
        rcases h with h | h
        · rw [List.lookup_cons, hx] at h; exact .inl h
        · exact .inr h
    · rw [if_neg hk]
      refine cellsFrom_look r _ _ x ?_
      rcases h with h | h
      · rw [List.lookup_cons] at h
        cases hx : x == name with
        | true => rw [hx] at h; cases h; exact absurd rfl hk
        | false => rw [hx] at h; exact .inl h
      · exact .inr h
theorem bindL_miss (kindOf : Str → Option NameKind) (x : Str) : ∀ (xs : List Str) (Vs : List Value) (m : Str → Option Value), x ∉ xs → bindL kindOf (xs.zip Vs) m x = m x
  | [], Vs, m, h => rfl
  | y :: ys, [], m, h => rfl
  | y :: ys, V :: Vs, m, h => by
    rw [List.zip_cons_cons]
    unfold bindL
    rw [bindL_miss kindOf x ys Vs _ fun q => h (List.mem_cons_of_mem _ q)]
    split
    · exact if_neg fun q => h (by rw [q]; exact List.mem_cons_self)
    · rfl
theorem bindC_miss (kindOf : Str → Option NameKind) (x : Str) : ∀ (xs : List Str) (Vs : List Value) (m : Str → Option Value), x ∉ xs → bindC kindOf (xs.zip Vs) m x = m x
  | [], Vs, m, h => rfl
  | y :: ys, [], m, h => rfl
  | y :: ys, V :: Vs, m, h => by
    rw [List.zip_cons_cons]
    unfold bindC
    rw [bindC_miss kindOf x ys Vs _ fun q => h (List.mem_cons_of_mem _ q)]
    split
    · rfl
    · exact if_neg fun q => h (by rw [q]; exact List.mem_cons_self)
theorem bindL_hit (kindOf : Str → Option NameKind) : ∀ (xs : List Str) (Vs : List Value) (m : Str → Option Value) (i : Nat) (x : Str) (V : Value), xs.Nodup → xs[i]? = some x → Vs[i]? = some V → kindOf x = some .local → bindL kindOf (xs.zip Vs) m x = some V
  | [], Vs, m, i, x, V, nd, h1, h2, hk => by simp at h1
  | y :: ys, [], m, i, x, V, nd, h1, h2, hk => by simp at h2
  | y :: ys, W :: Vs, m, i, x, V, nd, h1, h2, hk => by
    rw [List.zip_cons_cons]
    unfold bindL
    obtain ⟨n1, n2⟩ := List.nodup_cons.mp nd
    cases i with
    | zero =>
      simp only [List.getElem?_cons_zero, Option.some.injEq] at h1 h2
      subst h1; subst h2
      rw [bindL_miss kindOf y ys Vs _ n1, if_pos hk]
      exact if_pos rfl
    | succ i =>
      simp only [List.getElem?_cons_succ] at h1 h2
      exact bindL_hit kindOf ys Vs _ i x V n2 h1 h2 hk
theorem bindC_hit (kindOf : Str → Option NameKind) : ∀ (xs : List Str) (Vs : List Value) (m : Str → Option Value) (i : Nat) (x : Str) (V : Value), xs.Nodup → xs[i]? = some x → Vs[i]? = some V → kindOf x = some .cell → bindC kindOf (xs.zip Vs) m x = some V
  | [], Vs, m, i, x, V, nd, h1, h2, hk => by simp at h1
  | y :: ys, [], m, i, x, V, nd, h1, h2, hk => by simp at h2
  | y :: ys, W :: Vs, m, i, x, V, nd, h1, h2, hk => by
    rw [List.zip_cons_cons]
    unfold bindC
    obtain ⟨n1, n2⟩ := List.nodup_cons.mp nd
    cases i with
    | zero =>
      simp only [List.getElem?_cons_zero, Option.some.injEq] at h1 h2
      subst h1; subst h2
      rw [bindC_miss kindOf y ys Vs _ n1, if_neg (by rw [hk]; decide)]
      exact if_pos rfl
    | succ i =>
      simp only [List.getElem?_cons_succ] at h1 h2
      exact bindC_hit kindOf ys Vs _ i x V n2 h1 h2 hk

/-- what is asked of a function of the program -/
structure FnIs (P : Params) (f : Nat) (F : Fn) (fd : FuncData) (body : List Stmt) (nm : List Str) (dV : List Value) : Prop where
  look : (FK P).lookup f = some ⟨.type "function", none, .func fd, #[]⟩
  code : ∃ c oc vs t, fd.code = .ref c ∧ (FK P).lookup c = some oc ∧ oc.data = .fields vs ∧ vs[1]? = some (.str fd.qualname t)
  bod : fd.body = .stmts body
  clo : fd.closure = []
  glob : fd.globals = 3
  blt : fd.builtins = 0
  kind : fd.scope.kind = .function
  co : fd.scope.isCoroutine = false
  gen : fd.scope.isGenerator = false
  chk : chkSs nm fd.scope F.body body = true
  nd : nm.Nodup
  small : F.np + F.dflt.length ≤ nm.length
  names : ((nm.take (F.np + F.dflt.length)).all fun x => fd.scope.names.lookup x == some .local || fd.scope.names.lookup x == some .cell) = true
  dl : ∀ B ρ, VMs B ρ F.dflt dV
  bind : ∀ Vs, Vs.length = F.np → ∀ s, Gr P s.heap → ∀ B A, WpA B A (bindArgs fd ⟨Vs, []⟩) (fun b s' => b = (nm.take (F.np + F.dflt.length)).zip (Vs ++ dV) ∧ s' = s) s

section
variable {B : Bs} {O : Orc} {A : Around} {σ σ' σ₁ : St} {ρ ρ' : List Addr} {s s' s₁ : Shared} {v : AV} {V : Value}

theorem VMs.get {vs : List AV} {Vs : List Value} (h : VMs B ρ vs Vs) : ∀ {i : Nat} {v : AV}, vs[i]? = some v → ∃ V, Vs[i]? = some V ∧ VM B ρ v V := by
  induction h with
  | nil => intro i v h; simp at h
  | cons a b ih =>
    intro i v h
    cases i with
    | zero => simp only [List.getElem?_cons_zero, Option.some.injEq] at h; subst h; exact ⟨_, rfl, a⟩
    | succ i => simp only [List.getElem?_cons_succ] at h ⊢; exact ih h
theorem VMs.append {vs ws : List AV} {Vs Ws : List Value} (h : VMs B ρ vs Vs) (k : VMs B ρ ws Ws) : VMs B ρ (vs ++ ws) (Vs ++ Ws) := by
  induction h with
  | nil => exact k
  | cons a b ih => exact .cons a ih
theorem Rel.at {i : Nat} (R : Rel B ρ σ s) {a : Addr} (h : ρ[i]? = some a) : ∃ o, σ[i]? = some o := ⟨_, List.getElem?_eq_getElem (R.len ▸ (List.getElem?_eq_some_iff.mp h).1)⟩
theorem Rel.live (R : Rel B ρ σ s) {a : Addr} (h : a ∈ ρ) : ∃ ob, s.heap.get? a = some ob := by
  refine Classical.byContradiction fun hG0 => ?_
  obtain ⟨i, hi, q⟩ := List.getElem_of_mem h
  have h1 : ρ[i]? = some a := by rw [List.getElem?_eq_getElem hi, q]
  obtain ⟨o, h2⟩ := R.at h1
  refine hG0 ?_
  exact (R.obj i a o h1 h2).alive
theorem Rel.newAt (R : Rel B ρ σ s) {a : Addr} (h : s.heap.get? a = none) : a ∉ ρ ∧ B.s1.heap.get? a = none := by
  refine ⟨fun q => ?_, ?_⟩
  · obtain ⟨ob, e⟩ := R.live q; rw [h] at e; cases e
  · cases q : B.s1.heap.get? a with
    | none => rfl
    | some o => rw [R.keep _ _ q] at h; cases h
theorem get_none {h : Heap} {a : Addr} (q : h.objs.size ≤ a) : h.get? a = none := by unfold Heap.get?; rw [Array.getElem?_eq_none q]

/-- the objects of the caller alone -/
theorem OM.cut {h : Heap} {a : Addr} {o : AO} (x : OM B ρ' h a o) (p : ρ <+: ρ') (k : okAO ρ.length o = true) : OM B ρ h a o := by
  have at' : ∀ {d : Nat} {ad : Addr}, d < ρ.length → ρ'[d]? = some ad → ρ[d]? = some ad := fun {d ad} hd e => by
    obtain ⟨t, rfl⟩ := p
    rwa [List.getElem?_append_left hd] at e
  cases o with
  | list l => exact x
  | barr l => exact x
  | inst c d => obtain ⟨ad, e, i, j⟩ := x; exact ⟨ad, at' (of_decide_eq_true k) e, i, j⟩
  | dict fs =>
    obtain ⟨es, n, e, D⟩ := x
    refine ⟨es, n, e, ?_⟩
    clear e
    induction D with
    | nil => exact .nil
    | @cons a v fs e es x t h1 h2 h3 h4 ih =>
      obtain ⟨k1, k2⟩ := Bool.and_eq_true_iff.mp (show (_ && okAO ρ.length (.dict fs)) = true from k)
      refine .cons h1 h2 ?_ (ih k2)
      cases v <;> first | exact h3 | skip
      rename_i m
      obtain ⟨b, e1, e2⟩ := h3
      exact ⟨b, at' (of_decide_eq_true k1) e1, e2⟩
theorem cutSt_eq {n : Nat} {τ : St} (h : cutSt n σ = some τ) : τ = σ.take n ∧ (σ.take n).all (okAO n) = true := by
  unfold cutSt at h
  split at h
  · cases h; exact ⟨rfl, ‹_›⟩
  · cases h
theorem Rel.cut {τ : St} (R : Rel B ρ' σ' s) (p : ρ <+: ρ') (e : cutSt ρ.length σ' = some τ) : Rel B ρ τ s := by
  obtain ⟨rfl, hk⟩ := cutSt_eq e
  have hl : ρ.length ≤ σ'.length := R.len ▸ p.length_le
  refine ⟨?_, p.sublist.nodup R.nd, fun a h => R.lo a (p.subset h), fun i a o h1 h2 => ?_, R.keep, R.gens, R.os⟩
  · rw [List.length_take]; (first | lia | omega)
  · have hi := (List.getElem?_eq_some_iff.mp h1).1
    have h3 : σ'[i]? = some o := by rwa [List.getElem?_take_of_lt hi] at h2
    exact (R.obj i a o (getElem?_pre p h1) h3).cut p (List.all_eq_true.mp hk o (List.mem_of_getElem? h2))
theorem Rel.cutList {τ : St} {m : Nat} {l : List Int} {a : Addr} (R : Rel B ρ' σ' s) (p : ρ <+: ρ') (e : cutSt ρ.length σ' = some τ) (hm : ρ.length ≤ m) (ha : ρ'[m]? = some a) (hl : σ'[m]? = some (.list l)) : Rel B (ρ ++ [a]) (τ ++ [.list l]) s := by
  have R0 := R.cut p e
  have hna : a ∉ ρ := fun h => by
    obtain ⟨i, hi, q⟩ := List.getElem_of_mem h
    have h1 : ρ[i]? = some a := by rw [List.getElem?_eq_getElem hi, q]
    obtain ⟨p1, q1⟩ := List.getElem?_eq_some_iff.mp (getElem?_pre p h1)
    obtain ⟨p2, q2⟩ := List.getElem?_eq_some_iff.mp ha
    have := (List.getElem_inj R.nd).mp (q1.trans q2.symm)
    (first | lia | omega)
  refine ⟨by rw [List.length_append, List.length_append, R0.len]; rfl, ?_, fun b hb => ?_, fun i b o h1 h2 => ?_, R.keep, R.gens, R.os⟩
  · refine List.nodup_append.mpr ⟨R0.nd, List.nodup_cons.mpr ⟨List.not_mem_nil, List.nodup_nil⟩, fun x hx y hy q => ?_⟩
    rw [List.mem_singleton] at hy
    subst hy; subst q
    exact hna hx
  · rcases List.mem_append.mp hb with hb | hb
    · exact R0.lo b hb
    · rw [List.mem_singleton] at hb; subst hb; exact R.lo b (List.mem_of_getElem? ha)
  · by_cases hi : i < ρ.length
    · rw [List.getElem?_append_left hi] at h1
      rw [List.getElem?_append_left (R0.len ▸ hi)] at h2
      obtain ⟨ob, q⟩ := (R0.obj i b o h1 h2).alive
      exact (R0.obj i b o h1 h2).pre (List.prefix_append _ _) rfl
    · have hi' : i = ρ.length := by
        have := (List.getElem?_eq_some_iff.mp h1).1
        rw [List.length_append] at this
        simp only [List.length_cons, List.length_nil] at this
        (first | lia | omega)
      subst hi'
      rw [List.getElem?_append_right (Nat.le_refl _), Nat.sub_self] at h1
      rw [R0.len, List.getElem?_append_right (Nat.le_refl _), Nat.sub_self] at h2
      cases h1; cases h2
      exact R.obj m _ _ ha hl
theorem leave_ok {env : Env} {keep : Bool} {v' : AV} (R : Rel B ρ σ s) (hk : ∀ b o, s.heap.get? b = some o → s₁.heap.get? b = some o) (hf : ∀ b, FX env b → s.heap.get? b = none) (G : Goes (FX env) ρ s₁.heap ρ' s'.heap)
    (R' : Rel B ρ' σ₁ s') (m : VM B ρ' v V) (e : leaveF keep σ.length v σ₁ = some (v', σ')) : PV B ρ s σ' v' V s' := by
  have G0 : Goes Non ρ s.heap ρ' s'.heap := by
    refine ⟨G.pre, fun a ha => (G.new a ha).imp id fun hn => ?_, fun b o e nb _ => G.keep b o (hk b o e) nb (fun fx => by rw [hf b fx] at e; cases e), fun b o e => G.live b o (hk b o e)⟩
    cases q : s.heap.get? a with
    | none => rfl
    | some o => rw [hk _ _ q] at hn; cases hn
  have G1 : Goes Non ρ s.heap ρ s'.heap := ⟨List.prefix_refl _, fun _ h => .inl h, G0.keep, G0.live⟩
  have other : (∀ n, v ≠ .lab n) → (if keep then some (v, σ₁) else (cutSt σ.length σ₁).map fun τ => (v, τ)) = some (v', σ') → PV B ρ s σ' v' V s' := fun hn e => by
    split at e
    · cases e; exact ⟨ρ', G0, R', m⟩
    · refine mapE1 e fun τ e1 e2 => ?_
      cases e2
      rw [← R.len] at e1
      refine ⟨ρ, G1, R'.cut G.pre e1, ?_⟩
      cases v <;> first | exact m | exact absurd rfl (hn _)
  cases v <;> first | exact other (fun n q => by cases q) e | (exact nn e) | skip
  rename_i n
  unfold leaveF at e
  dsimp only at e
  split at e
  · rename_i hn
    split at e
    · rename_i l hl
      refine mapE1 e fun τ e1 e2 => ?_
      cases e2
      obtain ⟨a, ha, rfl⟩ := m
      rw [← R.len] at e1 hn ⊢
      refine ⟨ρ ++ [a], ⟨List.prefix_append _ _, fun b hb => ?_, G0.keep, G0.live⟩, R'.cutList G.pre e1 hn ha hl, a, ?_, rfl⟩
      · rcases List.mem_append.mp hb with hb | hb
        · exact .inl hb
        · rw [List.mem_singleton] at hb; subst hb; exact G0.new b (List.mem_of_getElem? ha)
      · rw [List.getElem?_append_right (Nat.le_refl _), Nat.sub_self]; rfl
    · first | exact nn e | cases e
  · first | exact nn e | cases e

theorem runFn_some {N pr : List Int} {F : Fn} {args : List AV} (e : runFn O N pr F args σ = some (v, σ')) : args.length = F.np ∧ ∃ fl η σ₁, exs O N pr F.body (enter (args ++ F.dflt)) σ = some (fl, η, σ₁) ∧
    leaveF F.keep σ.length (match fl with | .ret w => w | .next => .none) σ₁ = some (v, σ') := by
  unfold runFn at e
  split at e
  · refine ⟨‹_›, ?_⟩
    split at e
    · rename_i w η σ₁ q; exact ⟨.ret w, η, σ₁, q, e⟩
    · rename_i η σ₁ q; exact ⟨.next, η, σ₁, q, e⟩
    · first | exact nn e | cases e
  · first | exact nn e | cases e
/-- a call of a function of the program -/
theorem fn_call {f : Nat} {F : Fn} {fd : FuncData} {body : List Stmt} {nm : List Str} {dV : List Value} {args : List AV} (K : B.Ok) (hd : A.depth < recursionLimit)
    (hr : ∀ env, Room (A.deeper env) 0) (hO : ∀ env, OrcOK true B O (A.deeper env)) (h : FnIs B.w.params f F fd body nm dV) (e : runFn O B.ns prices F args σ = some (v, σ')) : CallOK true B A f args σ v σ' := fun ρ s Vs R m => by
  obtain ⟨hlen, fl, η, σ₁, e1, e2⟩ := runFn_some e
  have G := R.gr K
  have hVs : Vs.length = F.np := m.length.symm.trans hlen
  have mm := m.append (h.dl B ρ)
  have knd : ∀ x ∈ nm.take (F.np + F.dflt.length), fd.scope.names.lookup x = some .local ∨ fd.scope.names.lookup x = some .cell := fun x hx => by
    have := List.all_eq_true.mp h.names x hx
    rw [Bool.or_eq_true] at this
    exact this.imp beq_iff_eq.mp beq_iff_eq.mp
  refine codeAny_call_cells (binds := (nm.take (F.np + F.dflt.length)).zip (Vs ++ dV)) hd (G.frag _ _ h.look) rfl ?_ ?_ h.bod (h.bind Vs hVs s G B A.in1) h.clo ?_ (fun s₁ x => ?_) h.co h.gen h.kind
  · exact ⟨fun x => findIn3 F2 x, ⟨F2, _, _, G.at 9 rfl, rfl, fun e he => absurd he (Array.not_mem_empty e), fun x => rfl⟩, rfl⟩
  · obtain ⟨c, oc, vs, t, q1, q2, q3⟩ := h.code
    exact ⟨c, oc, vs, t, q1, G.frag _ _ q2, q3⟩
  · intro x hx
    have hx' := (List.of_mem_zip (a := x.1) (b := x.2) hx).1
    exact (knd _ hx').imp id fun q => ⟨q, cellsFrom_look _ _ _ _ (.inl q)⟩
  · generalize henv : callEnvC fd s.heap.objs.size f = env at x
    have hsc : env.scope = fd.scope := by rw [← henv]; rfl
    have hloc : env.locals = s.heap.objs.size := by rw [← henv]; rfl
    have hcells : env.cells = cellsFrom (s.heap.objs.size + 1) fd.scope.names [] := by rw [← henv]; rfl
    have hkd : ∀ x, env.kindOf x = fd.scope.names.lookup x := fun x => by unfold Env.kindOf; rw [hsc]
    have hf : ∀ b, FX env b → s.heap.get? b = none := fun b q => by
      rcases q with rfl | ⟨y, q⟩
      · rw [hloc]; exact get_size _
      · exact get_none (by have := x.above y b (mem_of_lookup q); rw [hloc] at this; exact Nat.le_of_lt this)
    have Fr : Frm B env nm (enter (args ++ F.dflt)) ρ s₁.heap := by
      refine ⟨by rw [hsc]; exact h.kind, by rw [← henv]; exact h.glob, by rw [← henv]; exact h.blt, ⟨_, x.toInCall.ns⟩, fun y c q => ⟨_, x.cell y c q⟩, fun y q => ?_, fun b q => R.newAt (hf b q),
        fun y c q r => ?_, fun y z c q r => name_of_addr x.apart (mem_of_lookup q) (mem_of_lookup r), h.nd, fun i w q => ?_⟩
      · rw [hkd] at q
        rw [hcells]
        exact Option.isSome_iff_exists.mp (cellsFrom_look _ _ _ _ (.inl q))
      · exact Nat.ne_of_gt (x.above y c (mem_of_lookup q)) r
      · obtain ⟨V, q1, q2⟩ := mm.get q
        have hi : i < F.np + F.dflt.length := by
          have := (List.getElem?_eq_some_iff.mp q1).1
          rw [List.length_append, hVs, ← (h.dl B ρ).length] at this
          exact this
        have hh : i < nm.length := Nat.lt_of_lt_of_le hi h.small
        have hn : ∃ y, (nm.take (F.np + F.dflt.length))[i]? = some y := ⟨nm[i], by rw [List.getElem?_take_of_lt hi, List.getElem?_eq_getElem hh]⟩
        obtain ⟨y, hy⟩ := hn
        have hy' : nm[i]? = some y := by rwa [List.getElem?_take_of_lt hi] at hy
        refine ⟨y, V, hy', ?_, q2⟩
        rcases knd y (List.mem_of_getElem? hy) with k | k
        · exact .inl ⟨(hkd y).trans k, _, x.toInCall.ns, bindL_hit _ _ _ _ i y V (h.nd.sublist (List.take_sublist _ _)) hy q1 ((hkd y).trans k)⟩
        · have hc := (hkd y).trans k
          obtain ⟨c, hc1⟩ := Option.isSome_iff_exists.mp (cellsFrom_look fd.scope.names (s.heap.objs.size + 1) [] y (.inl k))
          rw [← hcells] at hc1
          have hv := x.cell y c hc1
          rw [bindC_hit _ _ _ _ i y V (h.nd.sublist (List.take_sublist _ _)) hy q1 hc] at hv
          exact .inr ⟨hc, c, hc1, hv⟩
    obtain ⟨h', tk, hs⟩ := x.toInCall.same
    have R1 : Rel B ρ σ s₁ := R.still x.toInCall.keep (by rw [hs]) (by rw [hs])
    refine Wp.mono (okSs K (hr env) (hO env) F.body body env _ _ _ _ _ _ _ (by rw [hsc]; exact h.chk) e1 R1 Fr) fun fw s' ⟨ρ', G', R', F', fm⟩ => ?_
    cases fl with
    | next =>
      have fm : fw = .next := fm
      subst fm
      exact leave_ok R x.toInCall.keep hf G' R' (v := .none) rfl e2
    | ret w =>
      obtain ⟨V, rfl, mv⟩ := fm
      exact leave_ok R x.toInCall.keep hf G' R' mv e2
end
end Tk

namespace Tk
open PySem PySem.W PyProof.Rows PySem.Calls
noncomputable def fdOf (o : Obj) : FuncData := match o.data with | .func fd => fd | _ => f287
theorem len1 {Vs : List Value} (h : Vs.length = 1) : ∃ a, Vs = [a] := List.length_eq_one_iff.mp h
theorem len2 {Vs : List Value} (h : Vs.length = 2) : ∃ a b, Vs = [a, b] := by
  obtain ⟨a, t, rfl⟩ := List.exists_cons_of_length_eq_add_one h
  obtain ⟨b, rfl⟩ := len1 (Nat.succ.inj h)
  exact ⟨a, b, rfl⟩
theorem len3 {Vs : List Value} (h : Vs.length = 3) : ∃ a b c, Vs = [a, b, c] := by
  obtain ⟨a, t, rfl⟩ := List.exists_cons_of_length_eq_add_one h
  obtain ⟨b, c, rfl⟩ := len2 (Nat.succ.inj h)
  exact ⟨a, b, c, rfl⟩
theorem len4 {Vs : List Value} (h : Vs.length = 4) : ∃ a b c d, Vs = [a, b, c, d] := by
  obtain ⟨a, t, rfl⟩ := List.exists_cons_of_length_eq_add_one h
  obtain ⟨b, c, d, rfl⟩ := len3 (Nat.succ.inj h)
  exact ⟨a, b, c, d, rfl⟩
theorem look_97 (P : Params) : (FK P).lookup 97 = some ⟨.type "function", none, .func (fdOf F97), #[]⟩ := by
  have : (fun P : Params => (FK P).lookup 97) = fun _ => some ⟨.type "function", none, .func (fdOf F97), #[]⟩ := by kernel_rfl
  exact congrFun this P
theorem lookc_97 (P : Params) : (FK P).lookup 96 = some F96 := by
  have : (fun P : Params => (FK P).lookup 96) = fun _ => some F96 := by kernel_rfl
  exact congrFun this P
theorem bind_97 : (fun a b : Value => bindArgs (fdOf F97) ⟨[a, b], []⟩) = fun a b => pure [(("model" : Str), a), (("bit" : Str), b)] := by kernel_rfl
theorem fn_97 (P : Params) : FnIs P 97 ⟨2, [], c_next_model, false⟩ (fdOf F97) (bodyOf (stAt 20)) nm_next_model [] where
  look := look_97 P
  code := ⟨96, F96, _, _, rfl, lookc_97 P, rfl, rfl⟩
  bod := rfl
  clo := rfl
  glob := rfl
  blt := rfl
  kind := rfl
  co := rfl
  gen := rfl
  chk := chk_next_model
  nd := by decide +kernel
  small := by decide
  names := by decide +kernel
  dl := fun B ρ => .nil
  bind := fun Vs hV s G B A => by
    obtain ⟨a, b, rfl⟩ := len2 hV
    have q : bindArgs (fdOf F97) ⟨[a, b], []⟩ = pure [(("model" : Str), a), (("bit" : Str), b)] := congrFun (congrFun (bind_97) a) b
    rw [q]; exact PySem.wpAny_pure ⟨rfl, rfl⟩
theorem look_104 (P : Params) : (FK P).lookup 104 = some ⟨.type "function", none, .func (fdOf F104), #[]⟩ := by
  have : (fun P : Params => (FK P).lookup 104) = fun _ => some ⟨.type "function", none, .func (fdOf F104), #[]⟩ := by kernel_rfl
  exact congrFun this P
theorem lookc_104 (P : Params) : (FK P).lookup 103 = some F103 := by
  have : (fun P : Params => (FK P).lookup 103) = fun _ => some F103 := by kernel_rfl
  exact congrFun this P
theorem bind_104 : (fun a : Value => bindArgs (fdOf F104) ⟨[a], []⟩) = fun a => pure [(("model" : Str), a)] := by kernel_rfl
theorem fn_104 (P : Params) : FnIs P 104 ⟨1, [], c_need_model, false⟩ (fdOf F104) (bodyOf (stAt 21)) nm_need_model [] where
  look := look_104 P
  code := ⟨103, F103, _, _, rfl, lookc_104 P, rfl, rfl⟩
  bod := rfl
  clo := rfl
  glob := rfl
  blt := rfl
  kind := rfl
  co := rfl
  gen := rfl
  chk := chk_need_model
  nd := by decide +kernel
  small := by decide
  names := by decide +kernel
  dl := fun B ρ => .nil
  bind := fun Vs hV s G B A => by
    obtain ⟨a, rfl⟩ := len1 hV
    have q : bindArgs (fdOf F104) ⟨[a], []⟩ = pure [(("model" : Str), a)] := congrFun (bind_104) a
    rw [q]; exact PySem.wpAny_pure ⟨rfl, rfl⟩
theorem look_111 (P : Params) : (FK P).lookup 111 = some ⟨.type "function", none, .func (fdOf F111), #[]⟩ := by
  have : (fun P : Params => (FK P).lookup 111) = fun _ => some ⟨.type "function", none, .func (fdOf F111), #[]⟩ := by kernel_rfl
  exact congrFun this P
theorem lookc_111 (P : Params) : (FK P).lookup 110 = some F110 := by
  have : (fun P : Params => (FK P).lookup 110) = fun _ => some F110 := by kernel_rfl
  exact congrFun this P
theorem bind_111 : (fun a : Value => bindArgs (fdOf F111) ⟨[a], []⟩) = fun a => pure [(("bit" : Str), a)] := by kernel_rfl
theorem fn_111 (P : Params) : FnIs P 111 ⟨1, [], c_need_bit, false⟩ (fdOf F111) (bodyOf (stAt 22)) nm_need_bit [] where
  look := look_111 P
  code := ⟨110, F110, _, _, rfl, lookc_111 P, rfl, rfl⟩
  bod := rfl
  clo := rfl
  glob := rfl
  blt := rfl
  kind := rfl
  co := rfl
  gen := rfl
  chk := chk_need_bit
  nd := by decide +kernel
  small := by decide
  names := by decide +kernel
  dl := fun B ρ => .nil
  bind := fun Vs hV s G B A => by
    obtain ⟨a, rfl⟩ := len1 hV
    have q : bindArgs (fdOf F111) ⟨[a], []⟩ = pure [(("bit" : Str), a)] := congrFun (bind_111) a
    rw [q]; exact PySem.wpAny_pure ⟨rfl, rfl⟩
theorem look_287 (P : Params) : (FK P).lookup 287 = some ⟨.type "function", none, .func (fdOf F287), #[]⟩ := by
  have : (fun P : Params => (FK P).lookup 287) = fun _ => some ⟨.type "function", none, .func (fdOf F287), #[]⟩ := by kernel_rfl
  exact congrFun this P
theorem lookc_287 (P : Params) : (FK P).lookup 286 = some F286 := by
  have : (fun P : Params => (FK P).lookup 286) = fun _ => some F286 := by kernel_rfl
  exact congrFun this P
theorem bind_287 : (fun a : Value => bindArgs (fdOf F287) ⟨[a], []⟩) = fun a => pure [(("chance" : Str), a)] := by kernel_rfl
theorem fn_287 (P : Params) : FnIs P 287 ⟨1, [], c_price_of, false⟩ (fdOf F287) (bodyOf (stAt 25)) nm_price_of [] where
  look := look_287 P
  code := ⟨286, F286, _, _, rfl, lookc_287 P, rfl, rfl⟩
  bod := rfl
  clo := rfl
  glob := rfl
  blt := rfl
  kind := rfl
  co := rfl
  gen := rfl
  chk := chk_price_of
  nd := by decide +kernel
  small := by decide
  names := by decide +kernel
  dl := fun B ρ => .nil
  bind := fun Vs hV s G B A => by
    obtain ⟨a, rfl⟩ := len1 hV
    have q : bindArgs (fdOf F287) ⟨[a], []⟩ = pure [(("chance" : Str), a)] := congrFun (bind_287) a
    rw [q]; exact PySem.wpAny_pure ⟨rfl, rfl⟩
theorem look_3521 (P : Params) : (FK P).lookup 3521 = some ⟨.type "function", none, .func (fdOf F3521), #[]⟩ := by
  have : (fun P : Params => (FK P).lookup 3521) = fun _ => some ⟨.type "function", none, .func (fdOf F3521), #[]⟩ := by kernel_rfl
  exact congrFun this P
theorem lookc_3521 (P : Params) : (FK P).lookup 3520 = some F3520 := by
  have : (fun P : Params => (FK P).lookup 3520) = fun _ => some F3520 := by kernel_rfl
  exact congrFun this P
theorem bind_3521 : (fun a b : Value => bindArgs (fdOf F3521) ⟨[a, b], []⟩) = fun a b => pure [(("model" : Str), a), (("bit" : Str), b)] := by kernel_rfl
theorem fn_3521 (P : Params) : FnIs P 3521 ⟨2, [], c_bit_price, false⟩ (fdOf F3521) (bodyOf (stAt 28)) nm_bit_price [] where
  look := look_3521 P
  code := ⟨3520, F3520, _, _, rfl, lookc_3521 P, rfl, rfl⟩
  bod := rfl
  clo := rfl
  glob := rfl
  blt := rfl
  kind := rfl
  co := rfl
  gen := rfl
  chk := chk_bit_price
  nd := by decide +kernel
  small := by decide
  names := by decide +kernel
  dl := fun B ρ => .nil
  bind := fun Vs hV s G B A => by
    obtain ⟨a, b, rfl⟩ := len2 hV
    have q : bindArgs (fdOf F3521) ⟨[a, b], []⟩ = pure [(("model" : Str), a), (("bit" : Str), b)] := congrFun (congrFun (bind_3521) a) b
    rw [q]; exact PySem.wpAny_pure ⟨rfl, rfl⟩
theorem look_3528 (P : Params) : (FK P).lookup 3528 = some ⟨.type "function", none, .func (fdOf F3528), #[]⟩ := by
  have : (fun P : Params => (FK P).lookup 3528) = fun _ => some ⟨.type "function", none, .func (fdOf F3528), #[]⟩ := by kernel_rfl
  exact congrFun this P
theorem lookc_3528 (P : Params) : (FK P).lookup 3527 = some F3527 := by
  have : (fun P : Params => (FK P).lookup 3527) = fun _ => some F3527 := by kernel_rfl
  exact congrFun this P
theorem bind_3528 : (fun a b : Value => bindArgs (fdOf F3528) ⟨[a, b], []⟩) = fun a b => pure [(("model" : Str), a), (("bit" : Str), b)] := by kernel_rfl
theorem fn_3528 (P : Params) : FnIs P 3528 ⟨2, [], c_exact_price, false⟩ (fdOf F3528) (bodyOf (stAt 29)) nm_exact_price [] where
  look := look_3528 P
  code := ⟨3527, F3527, _, _, rfl, lookc_3528 P, rfl, rfl⟩
  bod := rfl
  clo := rfl
  glob := rfl
  blt := rfl
  kind := rfl
  co := rfl
  gen := rfl
  chk := chk_exact_price
  nd := by decide +kernel
  small := by decide
  names := by decide +kernel
  dl := fun B ρ => .nil
  bind := fun Vs hV s G B A => by
    obtain ⟨a, b, rfl⟩ := len2 hV
    have q : bindArgs (fdOf F3528) ⟨[a, b], []⟩ = pure [(("model" : Str), a), (("bit" : Str), b)] := congrFun (congrFun (bind_3528) a) b
    rw [q]; exact PySem.wpAny_pure ⟨rfl, rfl⟩
theorem look_3535 (P : Params) : (FK P).lookup 3535 = some ⟨.type "function", none, .func (fdOf F3535), #[]⟩ := by
  have : (fun P : Params => (FK P).lookup 3535) = fun _ => some ⟨.type "function", none, .func (fdOf F3535), #[]⟩ := by kernel_rfl
  exact congrFun this P
theorem lookc_3535 (P : Params) : (FK P).lookup 3534 = some F3534 := by
  have : (fun P : Params => (FK P).lookup 3534) = fun _ => some F3534 := by kernel_rfl
  exact congrFun this P
theorem bind_3535 : (fun a : Value => bindArgs (fdOf F3535) ⟨[a], []⟩) = fun a => pure [(("script" : Str), a)] := by kernel_rfl
theorem fn_3535 (P : Params) : FnIs P 3535 ⟨1, [], c_l_jar, false⟩ (fdOf F3535) (bodyOf (stAt 31)) nm_l_jar [] where
  look := look_3535 P
  code := ⟨3534, F3534, _, _, rfl, lookc_3535 P, rfl, rfl⟩
  bod := rfl
  clo := rfl
  glob := rfl
  blt := rfl
  kind := rfl
  co := rfl
  gen := rfl
  chk := chk_l_jar
  nd := by decide +kernel
  small := by decide
  names := by decide +kernel
  dl := fun B ρ => .nil
  bind := fun Vs hV s G B A => by
    obtain ⟨a, rfl⟩ := len1 hV
    have q : bindArgs (fdOf F3535) ⟨[a], []⟩ = pure [(("script" : Str), a)] := congrFun (bind_3535) a
    rw [q]; exact PySem.wpAny_pure ⟨rfl, rfl⟩
theorem look_3542 (P : Params) : (FK P).lookup 3542 = some ⟨.type "function", none, .func (fdOf F3542), #[]⟩ := by
  have : (fun P : Params => (FK P).lookup 3542) = fun _ => some ⟨.type "function", none, .func (fdOf F3542), #[]⟩ := by kernel_rfl
  exact congrFun this P
theorem lookc_3542 (P : Params) : (FK P).lookup 3541 = some F3541 := by
  have : (fun P : Params => (FK P).lookup 3541) = fun _ => some F3541 := by kernel_rfl
  exact congrFun this P
theorem bind_3542 : (fun a b : Value => bindArgs (fdOf F3542) ⟨[a, b], []⟩) = fun a b => pure [(("jar" : Str), a), (("many" : Str), b)] := by kernel_rfl
theorem fn_3542 (P : Params) : FnIs P 3542 ⟨2, [], c_l_take, false⟩ (fdOf F3542) (bodyOf (stAt 32)) nm_l_take [] where
  look := look_3542 P
  code := ⟨3541, F3541, _, _, rfl, lookc_3542 P, rfl, rfl⟩
  bod := rfl
  clo := rfl
  glob := rfl
  blt := rfl
  kind := rfl
  co := rfl
  gen := rfl
  chk := chk_l_take
  nd := by decide +kernel
  small := by decide
  names := by decide +kernel
  dl := fun B ρ => .nil
  bind := fun Vs hV s G B A => by
    obtain ⟨a, b, rfl⟩ := len2 hV
    have q : bindArgs (fdOf F3542) ⟨[a, b], []⟩ = pure [(("jar" : Str), a), (("many" : Str), b)] := congrFun (congrFun (bind_3542) a) b
    rw [q]; exact PySem.wpAny_pure ⟨rfl, rfl⟩
theorem look_3549 (P : Params) : (FK P).lookup 3549 = some ⟨.type "function", none, .func (fdOf F3549), #[]⟩ := by
  have : (fun P : Params => (FK P).lookup 3549) = fun _ => some ⟨.type "function", none, .func (fdOf F3549), #[]⟩ := by kernel_rfl
  exact congrFun this P
theorem lookc_3549 (P : Params) : (FK P).lookup 3548 = some F3548 := by
  have : (fun P : Params => (FK P).lookup 3548) = fun _ => some F3548 := by kernel_rfl
  exact congrFun this P
theorem bind_3549 : (fun a b : Value => bindArgs (fdOf F3549) ⟨[a, b], []⟩) = fun a b => pure [(("jar" : Str), a), (("side" : Str), b)] := by kernel_rfl
theorem fn_3549 (P : Params) : FnIs P 3549 ⟨2, [], c_l_models, false⟩ (fdOf F3549) (bodyOf (stAt 33)) nm_l_models [] where
  look := look_3549 P
  code := ⟨3548, F3548, _, _, rfl, lookc_3549 P, rfl, rfl⟩
  bod := rfl
  clo := rfl
  glob := rfl
  blt := rfl
  kind := rfl
  co := rfl
  gen := rfl
  chk := chk_l_models
  nd := by decide +kernel
  small := by decide
  names := by decide +kernel
  dl := fun B ρ => .nil
  bind := fun Vs hV s G B A => by
    obtain ⟨a, b, rfl⟩ := len2 hV
    have q : bindArgs (fdOf F3549) ⟨[a, b], []⟩ = pure [(("jar" : Str), a), (("side" : Str), b)] := congrFun (congrFun (bind_3549) a) b
    rw [q]; exact PySem.wpAny_pure ⟨rfl, rfl⟩
theorem look_3554 (P : Params) : (FK P).lookup 3554 = some ⟨.type "function", none, .func (fdOf F3554), #[]⟩ := by
  have : (fun P : Params => (FK P).lookup 3554) = fun _ => some ⟨.type "function", none, .func (fdOf F3554), #[]⟩ := by kernel_rfl
  exact congrFun this P
theorem lookc_3554 (P : Params) : (FK P).lookup 3553 = some F3553 := by
  have : (fun P : Params => (FK P).lookup 3553) = fun _ => some F3553 := by kernel_rfl
  exact congrFun this P
theorem bind_3554 : (fun a b : Value => bindArgs (fdOf F3554) ⟨[a, b], []⟩) = fun a b => pure [(("jar" : Str), a), (("most" : Str), b)] := by kernel_rfl
theorem fn_3554 (P : Params) : FnIs P 3554 ⟨2, [], c_l_bits, false⟩ (fdOf F3554) (bodyOf (stAt 34)) nm_l_bits [] where
  look := look_3554 P
  code := ⟨3553, F3553, _, _, rfl, lookc_3554 P, rfl, rfl⟩
  bod := rfl
  clo := rfl
  glob := rfl
  blt := rfl
  kind := rfl
  co := rfl
  gen := rfl
  chk := chk_l_bits
  nd := by decide +kernel
  small := by decide
  names := by decide +kernel
  dl := fun B ρ => .nil
  bind := fun Vs hV s G B A => by
    obtain ⟨a, b, rfl⟩ := len2 hV
    have q : bindArgs (fdOf F3554) ⟨[a, b], []⟩ = pure [(("jar" : Str), a), (("most" : Str), b)] := congrFun (congrFun (bind_3554) a) b
    rw [q]; exact PySem.wpAny_pure ⟨rfl, rfl⟩
theorem look_3561 (P : Params) : (FK P).lookup 3561 = some ⟨.type "function", none, .func (fdOf F3561), #[]⟩ := by
  have : (fun P : Params => (FK P).lookup 3561) = fun _ => some ⟨.type "function", none, .func (fdOf F3561), #[]⟩ := by kernel_rfl
  exact congrFun this P
theorem lookc_3561 (P : Params) : (FK P).lookup 3560 = some F3560 := by
  have : (fun P : Params => (FK P).lookup 3560) = fun _ => some F3560 := by kernel_rfl
  exact congrFun this P
theorem bind_3561 : (fun a : Value => bindArgs (fdOf F3561) ⟨[a], []⟩) = fun a => pure [(("lack" : Str), a)] := by kernel_rfl
theorem fn_3561 (P : Params) : FnIs P 3561 ⟨1, [], c_l_turns, false⟩ (fdOf F3561) (bodyOf (stAt 35)) nm_l_turns [] where
  look := look_3561 P
  code := ⟨3560, F3560, _, _, rfl, lookc_3561 P, rfl, rfl⟩
  bod := rfl
  clo := rfl
  glob := rfl
  blt := rfl
  kind := rfl
  co := rfl
  gen := rfl
  chk := chk_l_turns
  nd := by decide +kernel
  small := by decide
  names := by decide +kernel
  dl := fun B ρ => .nil
  bind := fun Vs hV s G B A => by
    obtain ⟨a, rfl⟩ := len1 hV
    have q : bindArgs (fdOf F3561) ⟨[a], []⟩ = pure [(("lack" : Str), a)] := congrFun (bind_3561) a
    rw [q]; exact PySem.wpAny_pure ⟨rfl, rfl⟩
theorem look_3568 (P : Params) : (FK P).lookup 3568 = some ⟨.type "function", none, .func (fdOf F3568), #[]⟩ := by
  have : (fun P : Params => (FK P).lookup 3568) = fun _ => some ⟨.type "function", none, .func (fdOf F3568), #[]⟩ := by kernel_rfl
  exact congrFun this P
theorem lookc_3568 (P : Params) : (FK P).lookup 3567 = some F3567 := by
  have : (fun P : Params => (FK P).lookup 3567) = fun _ => some F3567 := by kernel_rfl
  exact congrFun this P
theorem bind_3568 : (fun a b : Value => bindArgs (fdOf F3568) ⟨[a, b], []⟩) = fun a b => pure [(("model" : Str), a), (("bits" : Str), b)] := by kernel_rfl
theorem fn_3568 (P : Params) : FnIs P 3568 ⟨2, [], c_l_led, false⟩ (fdOf F3568) (bodyOf (stAt 36)) nm_l_led [] where
  look := look_3568 P
  code := ⟨3567, F3567, _, _, rfl, lookc_3568 P, rfl, rfl⟩
  bod := rfl
  clo := rfl
  glob := rfl
  blt := rfl
  kind := rfl
  co := rfl
  gen := rfl
  chk := chk_l_led
  nd := by decide +kernel
  small := by decide
  names := by decide +kernel
  dl := fun B ρ => .nil
  bind := fun Vs hV s G B A => by
    obtain ⟨a, b, rfl⟩ := len2 hV
    have q : bindArgs (fdOf F3568) ⟨[a, b], []⟩ = pure [(("model" : Str), a), (("bits" : Str), b)] := congrFun (congrFun (bind_3568) a) b
    rw [q]; exact PySem.wpAny_pure ⟨rfl, rfl⟩
theorem look_3575 (P : Params) : (FK P).lookup 3575 = some ⟨.type "function", none, .func (fdOf F3575), #[]⟩ := by
  have : (fun P : Params => (FK P).lookup 3575) = fun _ => some ⟨.type "function", none, .func (fdOf F3575), #[]⟩ := by kernel_rfl
  exact congrFun this P
theorem lookc_3575 (P : Params) : (FK P).lookup 3574 = some F3574 := by
  have : (fun P : Params => (FK P).lookup 3574) = fun _ => some F3574 := by kernel_rfl
  exact congrFun this P
theorem bind_3575 : (fun a b c : Value => bindArgs (fdOf F3575) ⟨[a, b, c], []⟩) = fun a b c => pure [(("low" : Str), a), (("high" : Str), b), (("bits" : Str), c)] := by kernel_rfl
theorem fn_3575 (P : Params) : FnIs P 3575 ⟨3, [], c_l_gap_right, false⟩ (fdOf F3575) (bodyOf (stAt 37)) nm_l_gap_right [] where
  look := look_3575 P
  code := ⟨3574, F3574, _, _, rfl, lookc_3575 P, rfl, rfl⟩
  bod := rfl
  clo := rfl
  glob := rfl
  blt := rfl
  kind := rfl
  co := rfl
  gen := rfl
  chk := chk_l_gap_right
  nd := by decide +kernel
  small := by decide
  names := by decide +kernel
  dl := fun B ρ => .nil
  bind := fun Vs hV s G B A => by
    obtain ⟨a, b, c, rfl⟩ := len3 hV
    have q : bindArgs (fdOf F3575) ⟨[a, b, c], []⟩ = pure [(("low" : Str), a), (("high" : Str), b), (("bits" : Str), c)] := congrFun (congrFun (congrFun (bind_3575) a) b) c
    rw [q]; exact PySem.wpAny_pure ⟨rfl, rfl⟩
theorem look_3582 (P : Params) : (FK P).lookup 3582 = some ⟨.type "function", none, .func (fdOf F3582), #[]⟩ := by
  have : (fun P : Params => (FK P).lookup 3582) = fun _ => some ⟨.type "function", none, .func (fdOf F3582), #[]⟩ := by kernel_rfl
  exact congrFun this P
theorem lookc_3582 (P : Params) : (FK P).lookup 3581 = some F3581 := by
  have : (fun P : Params => (FK P).lookup 3581) = fun _ => some F3581 := by kernel_rfl
  exact congrFun this P
theorem bind_3582 : (fun a b : Value => bindArgs (fdOf F3582) ⟨[a, b], []⟩) = fun a b => pure [(("model" : Str), a), (("bits" : Str), b)] := by kernel_rfl
theorem fn_3582 (P : Params) : FnIs P 3582 ⟨2, [], c_l_order_right, false⟩ (fdOf F3582) (bodyOf (stAt 38)) nm_l_order_right [] where
  look := look_3582 P
  code := ⟨3581, F3581, _, _, rfl, lookc_3582 P, rfl, rfl⟩
  bod := rfl
  clo := rfl
  glob := rfl
  blt := rfl
  kind := rfl
  co := rfl
  gen := rfl
  chk := chk_l_order_right
  nd := by decide +kernel
  small := by decide
  names := by decide +kernel
  dl := fun B ρ => .nil
  bind := fun Vs hV s G B A => by
    obtain ⟨a, b, rfl⟩ := len2 hV
    have q : bindArgs (fdOf F3582) ⟨[a, b], []⟩ = pure [(("model" : Str), a), (("bits" : Str), b)] := congrFun (congrFun (bind_3582) a) b
    rw [q]; exact PySem.wpAny_pure ⟨rfl, rfl⟩
theorem look_3587 (P : Params) : (FK P).lookup 3587 = some ⟨.type "function", none, .func (fdOf F3587), #[]⟩ := by
  have : (fun P : Params => (FK P).lookup 3587) = fun _ => some ⟨.type "function", none, .func (fdOf F3587), #[]⟩ := by kernel_rfl
  exact congrFun this P
theorem lookc_3587 (P : Params) : (FK P).lookup 3586 = some F3586 := by
  have : (fun P : Params => (FK P).lookup 3586) = fun _ => some F3586 := by kernel_rfl
  exact congrFun this P
theorem bind_3587 : (fun a b : Value => bindArgs (fdOf F3587) ⟨[a, b], []⟩) = fun a b => pure [(("model" : Str), a), (("bit" : Str), b)] := by kernel_rfl
theorem fn_3587 (P : Params) : FnIs P 3587 ⟨2, [], c_l_run_right, false⟩ (fdOf F3587) (bodyOf (stAt 39)) nm_l_run_right [] where
  look := look_3587 P
  code := ⟨3586, F3586, _, _, rfl, lookc_3587 P, rfl, rfl⟩
  bod := rfl
  clo := rfl
  glob := rfl
  blt := rfl
  kind := rfl
  co := rfl
  gen := rfl
  chk := chk_l_run_right
  nd := by decide +kernel
  small := by decide
  names := by decide +kernel
  dl := fun B ρ => .nil
  bind := fun Vs hV s G B A => by
    obtain ⟨a, b, rfl⟩ := len2 hV
    have q : bindArgs (fdOf F3587) ⟨[a, b], []⟩ = pure [(("model" : Str), a), (("bit" : Str), b)] := congrFun (congrFun (bind_3587) a) b
    rw [q]; exact PySem.wpAny_pure ⟨rfl, rfl⟩
theorem look_3592 (P : Params) : (FK P).lookup 3592 = some ⟨.type "function", none, .func (fdOf F3592), #[]⟩ := by
  have : (fun P : Params => (FK P).lookup 3592) = fun _ => some ⟨.type "function", none, .func (fdOf F3592), #[]⟩ := by kernel_rfl
  exact congrFun this P
theorem lookc_3592 (P : Params) : (FK P).lookup 3591 = some F3591 := by
  have : (fun P : Params => (FK P).lookup 3591) = fun _ => some F3591 := by kernel_rfl
  exact congrFun this P
theorem bind_3592 : (fun a b c : Value => bindArgs (fdOf F3592) ⟨[a, b, c], []⟩) = fun a b c => pure [(("models" : Str), a), (("bits" : Str), b), (("side" : Str), c)] := by kernel_rfl
theorem fn_3592 (P : Params) : FnIs P 3592 ⟨3, [], c_l_coder_right, false⟩ (fdOf F3592) (bodyOf (stAt 40)) nm_l_coder_right [] where
  look := look_3592 P
  code := ⟨3591, F3591, _, _, rfl, lookc_3592 P, rfl, rfl⟩
  bod := rfl
  clo := rfl
  glob := rfl
  blt := rfl
  kind := rfl
  co := rfl
  gen := rfl
  chk := chk_l_coder_right
  nd := by decide +kernel
  small := by decide
  names := by decide +kernel
  dl := fun B ρ => .nil
  bind := fun Vs hV s G B A => by
    obtain ⟨a, b, c, rfl⟩ := len3 hV
    have q : bindArgs (fdOf F3592) ⟨[a, b, c], []⟩ = pure [(("models" : Str), a), (("bits" : Str), b), (("side" : Str), c)] := congrFun (congrFun (congrFun (bind_3592) a) b) c
    rw [q]; exact PySem.wpAny_pure ⟨rfl, rfl⟩
theorem look_3599 (P : Params) : (FK P).lookup 3599 = some ⟨.type "function", none, .func (fdOf F3599), #[]⟩ := by
  have : (fun P : Params => (FK P).lookup 3599) = fun _ => some ⟨.type "function", none, .func (fdOf F3599), #[]⟩ := by kernel_rfl
  exact congrFun this P
theorem lookc_3599 (P : Params) : (FK P).lookup 3598 = some F3598 := by
  have : (fun P : Params => (FK P).lookup 3598) = fun _ => some F3598 := by kernel_rfl
  exact congrFun this P
theorem bind_3599 : (fun a : Value => bindArgs (fdOf F3599) ⟨[a], []⟩) = fun a => pure [(("script" : Str), a)] := by kernel_rfl
theorem fn_3599 (P : Params) : FnIs P 3599 ⟨1, [], c_law, false⟩ (fdOf F3599) (bodyOf (stAt 41)) nm_law [] where
  look := look_3599 P
  code := ⟨3598, F3598, _, _, rfl, lookc_3599 P, rfl, rfl⟩
  bod := rfl
  clo := rfl
  glob := rfl
  blt := rfl
  kind := rfl
  co := rfl
  gen := rfl
  chk := chk_law
  nd := by decide +kernel
  small := by decide
  names := by decide +kernel
  dl := fun B ρ => .nil
  bind := fun Vs hV s G B A => by
    obtain ⟨a, rfl⟩ := len1 hV
    have q : bindArgs (fdOf F3599) ⟨[a], []⟩ = pure [(("script" : Str), a)] := congrFun (bind_3599) a
    rw [q]; exact PySem.wpAny_pure ⟨rfl, rfl⟩
theorem look_126 (P : Params) : (FK P).lookup 126 = some ⟨.type "function", none, .func (fdOf F126), #[]⟩ := by
  have : (fun P : Params => (FK P).lookup 126) = fun _ => some ⟨.type "function", none, .func (fdOf F126), #[]⟩ := by kernel_rfl
  exact congrFun this P
theorem lookc_126 (P : Params) : (FK P).lookup 125 = some F125 := by
  have : (fun P : Params => (FK P).lookup 125) = fun _ => some F125 := by kernel_rfl
  exact congrFun this P
theorem dflt_126 (P : Params) : (FK P).lookup 119 = some F119 := by
  have : (fun P : Params => (FK P).lookup 119) = fun _ => some F119 := by kernel_rfl
  exact congrFun this P
theorem fn_126 (P : Params) : FnIs P 126 ⟨2, [.int 0, .none], c_rd_init, true⟩ (fdOf F126) (bodyOf (stIn 23 0)) nm_rd_init [.int 0 363, .none] where
  look := look_126 P
  code := ⟨125, F125, _, _, rfl, lookc_126 P, rfl, rfl⟩
  bod := rfl
  clo := rfl
  glob := rfl
  blt := rfl
  kind := rfl
  co := rfl
  gen := rfl
  chk := chk_rd_init
  nd := by decide +kernel
  small := by decide
  names := by decide +kernel
  dl := fun B ρ => .cons (v := .int 0) ⟨_, rfl⟩ (.cons (v := .none) rfl .nil)
  bind := fun Vs hV s G B A => by
    obtain ⟨a, b, rfl⟩ := len2 hV
    exact BindsTo.of_defaults (s := s) (fd := fdOf F126) (args := ⟨[a, b], []⟩) (binds := [(("self" : Str), a), (("octets" : Str), b), (("start" : Str), .int 0 363), (("end" : Str), .none)]) (items := #[.int 0 363, .none]) rfl (G.frag _ _ (dflt_126 _)) rfl rfl rfl _ _ _ _ ⟨rfl, rfl⟩
theorem look_133 (P : Params) : (FK P).lookup 133 = some ⟨.type "function", none, .func (fdOf F133), #[]⟩ := by
  have : (fun P : Params => (FK P).lookup 133) = fun _ => some ⟨.type "function", none, .func (fdOf F133), #[]⟩ := by kernel_rfl
  exact congrFun this P
theorem lookc_133 (P : Params) : (FK P).lookup 132 = some F132 := by
  have : (fun P : Params => (FK P).lookup 132) = fun _ => some F132 := by kernel_rfl
  exact congrFun this P
theorem bind_133 : (fun a : Value => bindArgs (fdOf F133) ⟨[a], []⟩) = fun a => pure [(("self" : Str), a)] := by kernel_rfl
theorem fn_133 (P : Params) : FnIs P 133 ⟨1, [], c_rd_octet, false⟩ (fdOf F133) (bodyOf (stIn 23 1)) nm_rd_octet [] where
  look := look_133 P
  code := ⟨132, F132, _, _, rfl, lookc_133 P, rfl, rfl⟩
  bod := rfl
  clo := rfl
  glob := rfl
  blt := rfl
  kind := rfl
  co := rfl
  gen := rfl
  chk := chk_rd_octet
  nd := by decide +kernel
  small := by decide
  names := by decide +kernel
  dl := fun B ρ => .nil
  bind := fun Vs hV s G B A => by
    obtain ⟨a, rfl⟩ := len1 hV
    have q : bindArgs (fdOf F133) ⟨[a], []⟩ = pure [(("self" : Str), a)] := congrFun (bind_133) a
    rw [q]; exact PySem.wpAny_pure ⟨rfl, rfl⟩
theorem look_154 (P : Params) : (FK P).lookup 154 = some ⟨.type "function", none, .func (fdOf F154), #[]⟩ := by
  have : (fun P : Params => (FK P).lookup 154) = fun _ => some ⟨.type "function", none, .func (fdOf F154), #[]⟩ := by kernel_rfl
  exact congrFun this P
theorem lookc_154 (P : Params) : (FK P).lookup 153 = some F153 := by
  have : (fun P : Params => (FK P).lookup 153) = fun _ => some F153 := by kernel_rfl
  exact congrFun this P
theorem bind_154 : (fun a : Value => bindArgs (fdOf F154) ⟨[a], []⟩) = fun a => pure [(("self" : Str), a)] := by kernel_rfl
theorem fn_154 (P : Params) : FnIs P 154 ⟨1, [], c_rd_ended, false⟩ (fdOf F154) (bodyOf (stIn 23 4)) nm_rd_ended [] where
  look := look_154 P
  code := ⟨153, F153, _, _, rfl, lookc_154 P, rfl, rfl⟩
  bod := rfl
  clo := rfl
  glob := rfl
  blt := rfl
  kind := rfl
  co := rfl
  gen := rfl
  chk := chk_rd_ended
  nd := by decide +kernel
  small := by decide
  names := by decide +kernel
  dl := fun B ρ => .nil
  bind := fun Vs hV s G B A => by
    obtain ⟨a, rfl⟩ := len1 hV
    have q : bindArgs (fdOf F154) ⟨[a], []⟩ = pure [(("self" : Str), a)] := congrFun (bind_154) a
    rw [q]; exact PySem.wpAny_pure ⟨rfl, rfl⟩
theorem look_161 (P : Params) : (FK P).lookup 161 = some ⟨.type "function", none, .func (fdOf F161), #[]⟩ := by
  have : (fun P : Params => (FK P).lookup 161) = fun _ => some ⟨.type "function", none, .func (fdOf F161), #[]⟩ := by kernel_rfl
  exact congrFun this P
theorem lookc_161 (P : Params) : (FK P).lookup 160 = some F160 := by
  have : (fun P : Params => (FK P).lookup 160) = fun _ => some F160 := by kernel_rfl
  exact congrFun this P
theorem bind_161 : (fun a : Value => bindArgs (fdOf F161) ⟨[a], []⟩) = fun a => pure [(("self" : Str), a)] := by kernel_rfl
theorem fn_161 (P : Params) : FnIs P 161 ⟨1, [], c_rd_fill, false⟩ (fdOf F161) (bodyOf (stIn 23 5)) nm_rd_fill [] where
  look := look_161 P
  code := ⟨160, F160, _, _, rfl, lookc_161 P, rfl, rfl⟩
  bod := rfl
  clo := rfl
  glob := rfl
  blt := rfl
  kind := rfl
  co := rfl
  gen := rfl
  chk := chk_rd_fill
  nd := by decide +kernel
  small := by decide
  names := by decide +kernel
  dl := fun B ρ => .nil
  bind := fun Vs hV s G B A => by
    obtain ⟨a, rfl⟩ := len1 hV
    have q : bindArgs (fdOf F161) ⟨[a], []⟩ = pure [(("self" : Str), a)] := congrFun (bind_161) a
    rw [q]; exact PySem.wpAny_pure ⟨rfl, rfl⟩
theorem look_168 (P : Params) : (FK P).lookup 168 = some ⟨.type "function", none, .func (fdOf F168), #[]⟩ := by
  have : (fun P : Params => (FK P).lookup 168) = fun _ => some ⟨.type "function", none, .func (fdOf F168), #[]⟩ := by kernel_rfl
  exact congrFun this P
theorem lookc_168 (P : Params) : (FK P).lookup 167 = some F167 := by
  have : (fun P : Params => (FK P).lookup 167) = fun _ => some F167 := by kernel_rfl
  exact congrFun this P
theorem bind_168 : (fun a b c : Value => bindArgs (fdOf F168) ⟨[a, b, c], []⟩) = fun a b c => pure [(("self" : Str), a), (("models" : Str), b), (("index" : Str), c)] := by kernel_rfl
theorem fn_168 (P : Params) : FnIs P 168 ⟨3, [], c_rd_bit, false⟩ (fdOf F168) (bodyOf (stIn 23 6)) nm_rd_bit [] where
  look := look_168 P
  code := ⟨167, F167, _, _, rfl, lookc_168 P, rfl, rfl⟩
  bod := rfl
  clo := rfl
  glob := rfl
  blt := rfl
  kind := rfl
  co := rfl
  gen := rfl
  chk := chk_rd_bit
  nd := by decide +kernel
  small := by decide
  names := by decide +kernel
  dl := fun B ρ => .nil
  bind := fun Vs hV s G B A => by
    obtain ⟨a, b, c, rfl⟩ := len3 hV
    have q : bindArgs (fdOf F168) ⟨[a, b, c], []⟩ = pure [(("self" : Str), a), (("models" : Str), b), (("index" : Str), c)] := congrFun (congrFun (congrFun (bind_168) a) b) c
    rw [q]; exact PySem.wpAny_pure ⟨rfl, rfl⟩
theorem look_210 (P : Params) : (FK P).lookup 210 = some ⟨.type "function", none, .func (fdOf F210), #[]⟩ := by
  have : (fun P : Params => (FK P).lookup 210) = fun _ => some ⟨.type "function", none, .func (fdOf F210), #[]⟩ := by kernel_rfl
  exact congrFun this P
theorem lookc_210 (P : Params) : (FK P).lookup 209 = some F209 := by
  have : (fun P : Params => (FK P).lookup 209) = fun _ => some F209 := by kernel_rfl
  exact congrFun this P
theorem bind_210 : (fun a : Value => bindArgs (fdOf F210) ⟨[a], []⟩) = fun a => pure [(("self" : Str), a)] := by kernel_rfl
theorem fn_210 (P : Params) : FnIs P 210 ⟨1, [], c_wr_init, true⟩ (fdOf F210) (bodyOf (stIn 24 0)) nm_wr_init [] where
  look := look_210 P
  code := ⟨209, F209, _, _, rfl, lookc_210 P, rfl, rfl⟩
  bod := rfl
  clo := rfl
  glob := rfl
  blt := rfl
  kind := rfl
  co := rfl
  gen := rfl
  chk := chk_wr_init
  nd := by decide +kernel
  small := by decide
  names := by decide +kernel
  dl := fun B ρ => .nil
  bind := fun Vs hV s G B A => by
    obtain ⟨a, rfl⟩ := len1 hV
    have q : bindArgs (fdOf F210) ⟨[a], []⟩ = pure [(("self" : Str), a)] := congrFun (bind_210) a
    rw [q]; exact PySem.wpAny_pure ⟨rfl, rfl⟩
theorem look_217 (P : Params) : (FK P).lookup 217 = some ⟨.type "function", none, .func (fdOf F217), #[]⟩ := by
  have : (fun P : Params => (FK P).lookup 217) = fun _ => some ⟨.type "function", none, .func (fdOf F217), #[]⟩ := by kernel_rfl
  exact congrFun this P
theorem lookc_217 (P : Params) : (FK P).lookup 216 = some F216 := by
  have : (fun P : Params => (FK P).lookup 216) = fun _ => some F216 := by kernel_rfl
  exact congrFun this P
theorem bind_217 : (fun a : Value => bindArgs (fdOf F217) ⟨[a], []⟩) = fun a => pure [(("self" : Str), a)] := by kernel_rfl
theorem fn_217 (P : Params) : FnIs P 217 ⟨1, [], c_wr_shift, false⟩ (fdOf F217) (bodyOf (stIn 24 1)) nm_wr_shift [] where
  look := look_217 P
  code := ⟨216, F216, _, _, rfl, lookc_217 P, rfl, rfl⟩
  bod := rfl
  clo := rfl
  glob := rfl
  blt := rfl
  kind := rfl
  co := rfl
  gen := rfl
  chk := chk_wr_shift
  nd := by decide +kernel
  small := by decide
  names := by decide +kernel
  dl := fun B ρ => .nil
  bind := fun Vs hV s G B A => by
    obtain ⟨a, rfl⟩ := len1 hV
    have q : bindArgs (fdOf F217) ⟨[a], []⟩ = pure [(("self" : Str), a)] := congrFun (bind_217) a
    rw [q]; exact PySem.wpAny_pure ⟨rfl, rfl⟩
theorem look_224 (P : Params) : (FK P).lookup 224 = some ⟨.type "function", none, .func (fdOf F224), #[]⟩ := by
  have : (fun P : Params => (FK P).lookup 224) = fun _ => some ⟨.type "function", none, .func (fdOf F224), #[]⟩ := by kernel_rfl
  exact congrFun this P
theorem lookc_224 (P : Params) : (FK P).lookup 223 = some F223 := by
  have : (fun P : Params => (FK P).lookup 223) = fun _ => some F223 := by kernel_rfl
  exact congrFun this P
theorem bind_224 : (fun a : Value => bindArgs (fdOf F224) ⟨[a], []⟩) = fun a => pure [(("self" : Str), a)] := by kernel_rfl
theorem fn_224 (P : Params) : FnIs P 224 ⟨1, [], c_wr_fill, false⟩ (fdOf F224) (bodyOf (stIn 24 2)) nm_wr_fill [] where
  look := look_224 P
  code := ⟨223, F223, _, _, rfl, lookc_224 P, rfl, rfl⟩
  bod := rfl
  clo := rfl
  glob := rfl
  blt := rfl
  kind := rfl
  co := rfl
  gen := rfl
  chk := chk_wr_fill
  nd := by decide +kernel
  small := by decide
  names := by decide +kernel
  dl := fun B ρ => .nil
  bind := fun Vs hV s G B A => by
    obtain ⟨a, rfl⟩ := len1 hV
    have q : bindArgs (fdOf F224) ⟨[a], []⟩ = pure [(("self" : Str), a)] := congrFun (bind_224) a
    rw [q]; exact PySem.wpAny_pure ⟨rfl, rfl⟩
theorem look_231 (P : Params) : (FK P).lookup 231 = some ⟨.type "function", none, .func (fdOf F231), #[]⟩ := by
  have : (fun P : Params => (FK P).lookup 231) = fun _ => some ⟨.type "function", none, .func (fdOf F231), #[]⟩ := by kernel_rfl
  exact congrFun this P
theorem lookc_231 (P : Params) : (FK P).lookup 230 = some F230 := by
  have : (fun P : Params => (FK P).lookup 230) = fun _ => some F230 := by kernel_rfl
  exact congrFun this P
theorem bind_231 : (fun a : Value => bindArgs (fdOf F231) ⟨[a], []⟩) = fun a => pure [(("self" : Str), a)] := by kernel_rfl
theorem fn_231 (P : Params) : FnIs P 231 ⟨1, [], c_wr_need_open, false⟩ (fdOf F231) (bodyOf (stIn 24 3)) nm_wr_need_open [] where
  look := look_231 P
  code := ⟨230, F230, _, _, rfl, lookc_231 P, rfl, rfl⟩
  bod := rfl
  clo := rfl
  glob := rfl
  blt := rfl
  kind := rfl
  co := rfl
  gen := rfl
  chk := chk_wr_need_open
  nd := by decide +kernel
  small := by decide
  names := by decide +kernel
  dl := fun B ρ => .nil
  bind := fun Vs hV s G B A => by
    obtain ⟨a, rfl⟩ := len1 hV
    have q : bindArgs (fdOf F231) ⟨[a], []⟩ = pure [(("self" : Str), a)] := congrFun (bind_231) a
    rw [q]; exact PySem.wpAny_pure ⟨rfl, rfl⟩
theorem look_238 (P : Params) : (FK P).lookup 238 = some ⟨.type "function", none, .func (fdOf F238), #[]⟩ := by
  have : (fun P : Params => (FK P).lookup 238) = fun _ => some ⟨.type "function", none, .func (fdOf F238), #[]⟩ := by kernel_rfl
  exact congrFun this P
theorem lookc_238 (P : Params) : (FK P).lookup 237 = some F237 := by
  have : (fun P : Params => (FK P).lookup 237) = fun _ => some F237 := by kernel_rfl
  exact congrFun this P
theorem bind_238 : (fun a b c d : Value => bindArgs (fdOf F238) ⟨[a, b, c, d], []⟩) = fun a b c d => pure [(("self" : Str), a), (("models" : Str), b), (("index" : Str), c), (("bit" : Str), d)] := by kernel_rfl
theorem fn_238 (P : Params) : FnIs P 238 ⟨4, [], c_wr_bit, false⟩ (fdOf F238) (bodyOf (stIn 24 4)) nm_wr_bit [] where
  look := look_238 P
  code := ⟨237, F237, _, _, rfl, lookc_238 P, rfl, rfl⟩
  bod := rfl
  clo := rfl
  glob := rfl
  blt := rfl
  kind := rfl
  co := rfl
  gen := rfl
  chk := chk_wr_bit
  nd := by decide +kernel
  small := by decide
  names := by decide +kernel
  dl := fun B ρ => .nil
  bind := fun Vs hV s G B A => by
    obtain ⟨a, b, c, d, rfl⟩ := len4 hV
    have q : bindArgs (fdOf F238) ⟨[a, b, c, d], []⟩ = pure [(("self" : Str), a), (("models" : Str), b), (("index" : Str), c), (("bit" : Str), d)] := congrFun (congrFun (congrFun (congrFun (bind_238) a) b) c) d
    rw [q]; exact PySem.wpAny_pure ⟨rfl, rfl⟩
theorem look_273 (P : Params) : (FK P).lookup 273 = some ⟨.type "function", none, .func (fdOf F273), #[]⟩ := by
  have : (fun P : Params => (FK P).lookup 273) = fun _ => some ⟨.type "function", none, .func (fdOf F273), #[]⟩ := by kernel_rfl
  exact congrFun this P
theorem lookc_273 (P : Params) : (FK P).lookup 272 = some F272 := by
  have : (fun P : Params => (FK P).lookup 272) = fun _ => some F272 := by kernel_rfl
  exact congrFun this P
theorem bind_273 : (fun a : Value => bindArgs (fdOf F273) ⟨[a], []⟩) = fun a => pure [(("self" : Str), a)] := by kernel_rfl
theorem fn_273 (P : Params) : FnIs P 273 ⟨1, [], c_wr_done, false⟩ (fdOf F273) (bodyOf (stIn 24 9)) nm_wr_done [] where
  look := look_273 P
  code := ⟨272, F272, _, _, rfl, lookc_273 P, rfl, rfl⟩
  bod := rfl
  clo := rfl
  glob := rfl
  blt := rfl
  kind := rfl
  co := rfl
  gen := rfl
  chk := chk_wr_done
  nd := by decide +kernel
  small := by decide
  names := by decide +kernel
  dl := fun B ρ => .nil
  bind := fun Vs hV s G B A => by
    obtain ⟨a, rfl⟩ := len1 hV
    have q : bindArgs (fdOf F273) ⟨[a], []⟩ = pure [(("self" : Str), a)] := congrFun (bind_273) a
    rw [q]; exact PySem.wpAny_pure ⟨rfl, rfl⟩
theorem fn_all (P : Params) {f : Nat} {F : Fn} (h : fnTab f = some F) : ∃ fd body nm dV, FnIs P f F fd body nm dV := by
  have key : ∀ x ∈ fnList, ∃ fd body nm dV, FnIs P x.1 x.2 fd body nm dV := by
    refine List.forall_mem_cons.mpr ⟨⟨_, _, _, _, fn_97 P⟩, List.forall_mem_cons.mpr ⟨⟨_, _, _, _, fn_104 P⟩, List.forall_mem_cons.mpr ⟨⟨_, _, _, _, fn_111 P⟩, List.forall_mem_cons.mpr ⟨⟨_, _, _, _, fn_287 P⟩, List.forall_mem_cons.mpr ⟨⟨_, _, _, _, fn_3521 P⟩, List.forall_mem_cons.mpr ⟨⟨_, _, _, _, fn_3528 P⟩, List.forall_mem_cons.mpr ⟨⟨_, _, _, _, fn_3535 P⟩, List.forall_mem_cons.mpr ⟨⟨_, _, _, _, fn_3542 P⟩, List.forall_mem_cons.mpr ⟨⟨_, _, _, _, fn_3549 P⟩, List.forall_mem_cons.mpr ⟨⟨_, _, _, _, fn_3554 P⟩, List.forall_mem_cons.mpr ⟨⟨_, _, _, _, fn_3561 P⟩, List.forall_mem_cons.mpr ⟨⟨_, _, _, _, fn_3568 P⟩, List.forall_mem_cons.mpr ⟨⟨_, _, _, _, fn_3575 P⟩, List.forall_mem_cons.mpr ⟨⟨_, _, _, _, fn_3582 P⟩, List.forall_mem_cons.mpr ⟨⟨_, _, _, _, fn_3587 P⟩, List.forall_mem_cons.mpr ⟨⟨_, _, _, _, fn_3592 P⟩, List.forall_mem_cons.mpr ⟨⟨_, _, _, _, fn_3599 P⟩, List.forall_mem_cons.mpr ⟨⟨_, _, _, _, fn_126 P⟩, List.forall_mem_cons.mpr ⟨⟨_, _, _, _, fn_133 P⟩, List.forall_mem_cons.mpr ⟨⟨_, _, _, _, fn_154 P⟩, List.forall_mem_cons.mpr ⟨⟨_, _, _, _, fn_161 P⟩, List.forall_mem_cons.mpr ⟨⟨_, _, _, _, fn_168 P⟩, List.forall_mem_cons.mpr ⟨⟨_, _, _, _, fn_210 P⟩, List.forall_mem_cons.mpr ⟨⟨_, _, _, _, fn_217 P⟩, List.forall_mem_cons.mpr ⟨⟨_, _, _, _, fn_224 P⟩, List.forall_mem_cons.mpr ⟨⟨_, _, _, _, fn_231 P⟩, List.forall_mem_cons.mpr ⟨⟨_, _, _, _, fn_238 P⟩, List.forall_mem_cons.mpr ⟨⟨_, _, _, _, fn_273 P⟩, fun _ h => (List.not_mem_nil h).elim⟩⟩⟩⟩⟩⟩⟩⟩⟩⟩⟩⟩⟩⟩⟩⟩⟩⟩⟩⟩⟩⟩⟩⟩⟩⟩⟩⟩
  exact key (f, F) (mem_of_look h)
end Tk

namespace Tk
open PySem PySem.W PyProof.Rows PySem.Calls

theorem init_facts (P : Params) : [(192, 126), (276, 210)].all (fun (x : Nat × Nat) => makesIn (FK P) x.1 && findIn (FK P) (.ref x.1) "__init__" == some (some (.ref x.2)) && typeIn (FK P) (.ref x.2) == some (.type "function")) = true := by
  have : (fun P : Params => [(192, 126), (276, 210)].all (fun (x : Nat × Nat) => makesIn (FK P) x.1 && findIn (FK P) (.ref x.1) "__init__" == some (some (.ref x.2)) && typeIn (FK P) (.ref x.2) == some (.type "function"))) = fun _ => true := by kernel_rfl
  exact congrFun this P
theorem initOf_mem {f g : Nat} (h : initOf f = some g) : (f, g) ∈ [(192, 126), (276, 210)] ∧ (f = 192 ∨ f = 276) := by
  unfold initOf at h
  split at h <;> first | (cases h; done) | (cases h; decide)
theorem tc_weight (C : Nat) (rest : List Value) : (Code.builtin "type.__call__" ⟨.ref C :: rest, []⟩).weight = 1 := by kernel_rfl
theorem tc_units (C : Nat) (rest : List Value) : (Code.builtin "type.__call__" ⟨.ref C :: rest, []⟩).cUnits ≤ 2 := by
  first | exact of_decide_eq_true (by kernel_rfl) | decide +kernel
theorem room_under {A : Around} {n C : Nat} {rest : List Value} (hr : Room A (n + 1)) : Room (A.under (.builtin "type.__call__" ⟨.ref C :: rest, []⟩)) n := by
  refine ⟨hr.handled, ?_, ?_⟩
  · have := hr.depth
    show A.depth + (Code.builtin "type.__call__" ⟨.ref C :: rest, []⟩).weight + 4 * n + 4 < recursionLimit
    rw [tc_weight]; (first | lia | (first | lia | omega))
  · have := hr.units
    have k := tc_units C rest
    show A.units + (Code.builtin "type.__call__" ⟨.ref C :: rest, []⟩).cUnits + 100 * n + 100 < cLine
    (first | lia | (first | lia | omega))
theorem room_deeper {A : Around} {n : Nat} {env : Env} (hr : Room A (n + 1)) : Room (A.deeper env) n := by
  refine ⟨hr.handled, ?_, ?_⟩
  · have := hr.depth
    show A.depth + 1 + 4 * n + 4 < recursionLimit
    (first | lia | (first | lia | omega))
  · have := hr.units
    show A.units + 3 + 100 * n + 100 < cLine
    (first | lia | (first | lia | omega))
theorem Room.low {A : Around} {n : Nat} (hr : Room A n) : Room A 0 := ⟨hr.handled, by have := hr.depth; (first | lia | (first | lia | omega)), by have := hr.units; (first | lia | (first | lia | omega))⟩

section
variable {B : Bs} {A : Around}
theorem new_ok {f g : Nat} {args : List AV} {σ τ : St} (K : B.Ok) (hi : initOf f = some g) (hO : ∀ rest, CallOK true B (A.under (.builtin "type.__call__" ⟨.ref f :: rest, []⟩)) g (.lab (σ.length + 1) :: args) (σ ++ [.dict [], .inst f σ.length]) .none τ) :
    CallOK true B A f args σ (.lab (σ.length + 1)) τ := fun ρ s Vs R m => by
  obtain ⟨h, gs, d, t, os⟩ := s
  obtain ⟨mem, hf⟩ := initOf_mem hi
  have facts := List.all_eq_true.mp (init_facts B.w.params) (f, g) mem
  simp only [Bool.and_eq_true, beq_iff_eq] at facts
  have X := (R.gr K).frag
  have k1 : ∀ b o, h.get? b = some o → (h.push emptyDict).get? b = some o := fun b o e => Heap.get?_push_of_some _ e
  have R1 : Rel B (ρ ++ [h.objs.size]) (σ ++ [.dict []]) ⟨h.push emptyDict, gs, d, t, os⟩ := R.push (get_size h) k1 ⟨[], 0, Heap.get?_push_size h rfl, .nil⟩ rfl rfl
  have hsz : (h.push emptyDict).objs.size = h.objs.size + 1 := Heap.size_push ..
  have k2 : ∀ b o, (h.push emptyDict).get? b = some o → ((h.push emptyDict).push (instObj f h.objs.size)).get? b = some o := fun b o e => Heap.get?_push_of_some _ e
  have hx : ((h.push emptyDict).push (instObj f h.objs.size)).get? (h.objs.size + 1) = some (instObj f h.objs.size) := by
    have := Heap.get?_push_size (h.push emptyDict) (o := instObj f h.objs.size) rfl
    rwa [hsz] at this
  have R2 : Rel B (ρ ++ [h.objs.size] ++ [h.objs.size + 1]) (σ ++ [.dict []] ++ [.inst f σ.length]) ⟨(h.push emptyDict).push (instObj f h.objs.size), gs, d, t, os⟩ := by
    refine R1.push (by rw [← hsz]; exact get_size _) k2 ⟨h.objs.size, ?_, hx, hf⟩ rfl rfl
    rw [List.getElem?_append_left (by rw [List.length_append, R.len]; exact Nat.lt_succ_self _), ← R.len, List.getElem?_append_right (Nat.le_refl _), Nat.sub_self]; rfl
  rw [List.append_assoc σ] at R2
  have hp : ρ <+: ρ ++ [h.objs.size] ++ [h.objs.size + 1] := by rw [List.append_assoc]; exact List.prefix_append _ _
  have hx1 : (ρ ++ [h.objs.size] ++ [h.objs.size + 1])[σ.length + 1]? = some (h.objs.size + 1) := by
    rw [List.getElem?_append_right (by rw [List.length_append, R.len]; exact Nat.le_refl _), List.length_append, R.len]
    simp
  have G2 : Goes Non ρ h (ρ ++ [h.objs.size] ++ [h.objs.size + 1]) ((h.push emptyDict).push (instObj f h.objs.size)) := by
    refine ⟨hp, fun a ha => ?_, fun b o e _ _ => k2 b o (k1 b o e), fun b o e => ⟨o, k2 b o (k1 b o e)⟩⟩
    rw [List.append_assoc] at ha
    rcases List.mem_append.mp ha with ha | ha
    · exact .inl ha
    · refine .inr (get_none ?_)
      simp only [List.mem_append, List.mem_cons, List.not_mem_nil, or_false] at ha
      rcases ha with rfl | rfl
      · exact Nat.le_refl _
      · exact Nat.le_succ _
  have C := hO Vs _ _ (.ref (h.objs.size + 1) :: Vs) R2 (.cons ⟨_, hx1, rfl⟩ (m.pre hp))
  refine Cd.mono (make_S (R := fun s' => ∃ ρ', Goes Non (ρ ++ [h.objs.size] ++ [h.objs.size + 1]) ((h.push emptyDict).push (instObj f h.objs.size)) ρ' s'.heap ∧ Rel B ρ' τ s')
    (makes_of X facts.1.1) (looks_findIn X facts.1.2) (fun self => bind_fn X self facts.2) (C.mono fun r s' hr => ?_)) fun r s' hr => ?_
  · rcases r with e | (_ | _ | _ | V) <;> first | exact hr.elim | skip
    obtain ⟨ρ', G', R', q⟩ := hr
    cases q
    exact ⟨rfl, ρ', G', R'⟩
  · obtain ⟨rfl, ρ', G', R'⟩ := hr
    exact ⟨ρ', G2.trans G', R', _, getElem?_pre G'.pre hx1, rfl⟩
theorem orc_ok (K : B.Ok) : ∀ (n : Nat) (A : Around), Room A n → OrcOK true B (orc B.ns prices n) A
  | 0, A, hr => fun f args σ v σ' e => by unfold orc at e; cases e
  | n + 1, A, hr => fun f args σ v σ' e => by
    unfold orc at e
    split at e
    · rename_i g hg
      split at e
      · rename_i τ e1
        cases e
        exact new_ok K hg fun rest => orc_ok K n _ (room_under hr) _ _ _ _ _ e1
      · first | exact nn e | cases e
    · split at e
      · refine Classical.byContradiction fun hG0 => ?_
        rename_i F hF
        obtain ⟨fd, body, nm, dV, h⟩ := fn_all B.w.params hF
        refine hG0 ?_
        exact fn_call K (by have := hr.depth; (first | lia | (first | lia | omega))) (fun env => (room_deeper hr).low) (fun env => orc_ok K n _ (room_deeper hr)) h e
      · first | exact nn e | cases e
end
theorem walk_of (H : ∀ ns : List Int, ns.length ≤ 63 → orc ns prices 8 3599 [.script] [] = some (.bool true, [])) : Walk := fun w s₁ l vs ns G hg hl hI hlen p => by
  have K : (⟨w, s₁, l, ns, vs⟩ : Bs).Ok := ⟨G, hg, hl, hI, hlen⟩
  have R : Rel ⟨w, s₁, l, ns, vs⟩ [] [] s₁ := ⟨rfl, List.nodup_nil, fun _ h => absurd h List.not_mem_nil, fun i a o h => by simp at h, fun _ _ e => e, hg, rfl⟩
  have C := orc_ok K 8 callerA ⟨rfl, by decide, by decide⟩ 3599 [.script] [] _ _ (H ns hlen) [] s₁ [.ref l] R (.cons rfl .nil)
  have W : Wp true ⟨w, s₁, l, ns, vs⟩ callerA (PySem.call (.ref 3599) [.ref l]) (PV ⟨w, s₁, l, ns, vs⟩ [] s₁ [] (.bool true)) s₁ := wpAny_call C
  refine Sem.wp_mono _ _ _ (fun v p' s' h => ?_) (fun _ _ _ x => x) p _ (W gCall p caller_in (fun _ => ⟨by show holders.contains "claim.caller" = false; decide +kernel, fun x hx => absurd hx List.not_mem_nil⟩))
  refine Classical.byContradiction fun hG0 => ?_
  obtain ⟨ρ', G', R', q⟩ := h
  refine hG0 ?_
  exact ⟨q, R'.keep, R'.os, R'.gens⟩
theorem holds_of (H : ∀ ns : List Int, ns.length ≤ 63 → orc ns prices 8 3599 [.script] [] = some (.bool true, [])) : PySem.Challenge.rw_tk0120_01.Holds := holds_of_walk (walk_of H)
end Tk

theorem PySem.Challenge.cw_tk0120_01_holds : PySem.Challenge.rw_tk0120_01.Holds := by
  exact Tk.holds_of fun _ h => Tk.P.sp_law (n := 3) h
